import PyProof.Rows.All
import Wide.All
import OpenK.AllK
import Wide.FinOn
import HandS.ForMost
import HandS.IsInst
import HandS.Codes
import HandS.Wide
import HandS.WideBits
import HandS.Conv
import HandS.TupAny
import HandS.StrMore
import HandS.WordsExc
import KE.GoesEnum
import KE.KDictKeyed
import KE.KDictDisplayH
import HandS.OwnEq
import PyProof.InstEq
import HandS.Replace
import HandS.Steps
import HandS.Zip
import HandS.Deep
import HandS.More
import KE.KSuper
import KE.KExcSuper
import KE.KExcIs
import KE.KIsAll
import HandS.ExcInit
import HandS.ExcField
import HandS.ExcIs
import HandS.Nested
import HandS.RaiseMore
import HandS.FStr
import HandS.HotCalls
import HandS.SuiteRaise
import PySem.Challenge.RW_untoldlots_k09_whole_joins
import HandS.EndBits
set_option Elab.async false
set_option linter.all false
set_option maxRecDepth 100000
namespace U
open PySem PySem.Spec PyProof.Rows L2

section
variable {K : PySem.W.Frag} {D : Ends} {σ : L2.St} {H : Hp} {Q : VK} {QB : Bool → Hp → Prop} {QL : List V → Hp → Prop} {QS : L2.St → Hp → Prop} {QH : Hp → Prop}
theorem i_var {i : Nat} {v : V} (e : σ[i]? = some (some v)) (q : Q v H) : tVar i σ H Q := ⟨v, e, q⟩
theorem i_C {v : V} (q : Q v H) : tC v σ H Q := q
theorem i_seq {t u : TS} (q : t { D with nx := u D } σ H) : tSeq t u D σ H := q
theorem i_next (q : D.nx σ H) : tNext D σ H := q
theorem i_asg {te : TE} {g : TG} (q : te σ H fun x H1 => g x σ H1 D.nx) : tAsg te g D σ H := q
theorem i_name {i : Nat} {v : V} {σ' : L2.St} (e : σ.set i (some v) = σ') (q : QS σ' H) : gName i v σ H QS := by
  subst e
  exact q
theorem i_sub {to ti : TE} {t : TSet} {v : V} (q : to σ H fun o H1 => ti σ H1 fun i H2 => t o i v H2 fun H3 => QS σ H3) : gSub to ti t v σ H QS := q
theorem i_setL {p : Addr} {xs : List V} {k : Int} {j : Nat} {v : V} (h : H p = some (.lst xs)) (hj : ixN xs.length k = some j) (q : QH (upd H p (.lst (xs.set j v)))) : rSetL (.ref p) (.int k) v H QH := ⟨p, xs, k, j, rfl, rfl, h, hj, q⟩
theorem i_ret {te : TE} (q : te σ H D.rt) : tRet te D σ H := q
theorem i_retN (q : D.rt .non H) : tRetN D σ H := q
theorem i_drop {te : TE} (q : te σ H fun _ H1 => D.nx σ H1) : tDrop te D σ H := q
theorem i_ifS {c : TT} {t u : TS} (q : c σ H fun b H1 => if b = true then t D σ H1 else u D σ H1) : tIfS c t u D σ H := q
theorem i_test {t : TE} (q : t σ H fun x H' => ∃ k, x = .bl k ∧ QB k H') : tTest t σ H QB := q
theorem i_tB {t : TE} (q : t σ H fun x H' => ∃ k, x = .bl k ∧ QB k H') : tB t σ H QB := q
theorem i_op {r : R2} {ta tb : TE} (q : ta σ H fun x H1 => tb σ H1 fun y H2 => r x y H2 Q) : tOp r ta tb σ H Q := q
theorem i_un {r : V → Hp → VK → Prop} {ta : TE} (q : ta σ H fun x H1 => r x H1 Q) : tUn r ta σ H Q := q
theorem i_rI0 {g : Int → Int → V} {i j : Int} (q : Q (g i j) H) : rI0 g (.int i) (.int j) H Q := ⟨i, j, rfl, rfl, q⟩
theorem i_rI {C : Int → Int → Prop} {g : Int → Int → V} {i j : Int} (c : C i j) (q : Q (g i j) H) : rI C g (.int i) (.int j) H Q := ⟨i, j, rfl, rfl, c, q⟩
theorem i_rU {g : Int → V} {i : Int} (q : Q (g i) H) : rU g (.int i) H Q := ⟨i, rfl, q⟩
theorem i_eqI {i j : Int} (q : Q (.bl (decide (i = j))) H) : rEq (.int i) (.int j) H Q := by
  refine ⟨rfl, ?_⟩
  have e : decide (V.int i = V.int j) = decide (i = j) := by simp
  rw [e]
  exact q
theorem i_neI {i j : Int} (q : Q (.bl (!decide (i = j))) H) : rNe (.int i) (.int j) H Q := by
  refine ⟨rfl, ?_⟩
  have e : decide (V.int i = V.int j) = decide (i = j) := by simp
  rw [e]
  exact q
theorem i_eqS {i j : Str} (q : Q (.bl (decide (i = j))) H) : rEq (.str i) (.str j) H Q := by
  refine ⟨rfl, ?_⟩
  have e : decide (V.str i = V.str j) = decide (i = j) := by simp
  rw [e]
  exact q
theorem i_neS {i j : Str} (q : Q (.bl (!decide (i = j))) H) : rNe (.str i) (.str j) H Q := by
  refine ⟨rfl, ?_⟩
  have e : decide (V.str i = V.str j) = decide (i = j) := by simp
  rw [e]
  exact q
theorem i_eqB {i j : Bool} (q : Q (.bl (decide (i = j))) H) : rEq (.bl i) (.bl j) H Q := by
  refine ⟨rfl, ?_⟩
  have e : decide (V.bl i = V.bl j) = decide (i = j) := by simp
  rw [e]
  exact q
theorem i_neB {i j : Bool} (q : Q (.bl (!decide (i = j))) H) : rNe (.bl i) (.bl j) H Q := by
  refine ⟨rfl, ?_⟩
  have e : decide (V.bl i = V.bl j) = decide (i = j) := by simp
  rw [e]
  exact q
theorem ex_bl {b : Bool} {P : Bool → Prop} (h : P b) : ∃ k, V.bl b = .bl k ∧ P k := ⟨b, rfl, h⟩
theorem i_ixL {p : Addr} {xs : List V} {i : Int} {v : V} (h : H p = some (.lst xs)) (e : atI xs i = some v) (q : Q v H) : rIx K (.ref p) (.int i) H Q := .inl ⟨p, xs, i, v, rfl, rfl, SqL.of h, e, q⟩
theorem i_ixLs {p : Addr} {xs : List V} {i : Int} {v : V} (h : SqL K H p xs) (e : atI xs i = some v) (q : Q v H) : rIx K (.ref p) (.int i) H Q := .inl ⟨p, xs, i, v, rfl, rfl, h, e, q⟩
theorem i_ixT {p : Addr} {xs : List V} {i : Int} {v : V} (h : H p = some (.tup xs)) (e : atI xs i = some v) (q : Q v H) : rIx K (.ref p) (.int i) H Q := .inr (.inl ⟨p, xs, i, v, rfl, rfl, SqT.of h, e, q⟩)
theorem i_ixS {z : Str} {i : Int} {c : Nat} (h : z.length ≤ sizeLine) (e : atI z.cps.toList i = some c) (q : Q (.str ⟨#[c]⟩) H) : rIx K (.str z) (.int i) H Q := .inr (.inr ⟨z, i, c, rfl, rfl, h, e, q⟩)
theorem i_CB {r : List V → Hp → VK → Prop} {t : TA} (q : t σ H fun vs H1 => r vs H1 Q) : tCB r t σ H Q := q
theorem i_nil (q : QL [] H) : tNil σ H QL := q
theorem i_cons {ta : TE} {tr : TA} (q : ta σ H fun x H1 => tr σ H1 fun xs H2 => QL (x :: xs) H2) : tCons ta tr σ H QL := q
theorem i_call {sp : Sp} {E : XK} {t : TA} (q : t σ H fun vs H1 => sp vs H1 Q E) : tCall sp [] E t σ H Q := by
  refine cast ?_ q
  unfold tCall
  simp only [List.append_nil]
theorem i_and {t u : TT} (q : t σ H fun c H1 => if c = true then u σ H1 QB else QB false H1) : tAnd t u σ H QB := q
theorem i_or {t u : TT} (q : t σ H fun c H1 => if c = true then QB true H1 else u σ H1 QB) : tOr t u σ H QB := q
theorem i_not {t : TT} (q : t σ H fun c H1 => QB (!c) H1) : tNot t σ H QB := q
theorem i_andV {ta tb : TE} (q : ta σ H fun x H1 => ∃ c, x = .bl c ∧ if c = true then tb σ H1 Q else Q (.bl false) H1) : tAndV ta tb σ H Q := q
theorem i_orV {ta tb : TE} (q : ta σ H fun x H1 => ∃ c, x = .bl c ∧ if c = true then Q (.bl true) H1 else tb σ H1 Q) : tOrV ta tb σ H Q := q
theorem i_notV {ta : TE} (q : ta σ H fun x H1 => ∃ c, x = .bl c ∧ Q (.bl (!c)) H1) : tNotV ta σ H Q := q
theorem i_if {c : TT} {ta tb : TE} (q : c σ H fun b H1 => if b = true then ta σ H1 Q else tb σ H1 Q) : tIf c ta tb σ H Q := q
theorem i_tup {t : TA} (q : t σ H fun xs H1 => xs.length ≤ sizeLine ∧ ∀ p, H1 p = none → Q (.ref p) (upd H1 p (.tup xs))) : tTup t σ H Q := q
theorem i_lst {t : TA} (q : t σ H fun xs H1 => xs.length ≤ sizeLine ∧ ∀ p, H1 p = none → Q (.ref p) (upd H1 p (.lst xs))) : tLst t σ H Q := q
theorem ex_int1 {n : Int} {P : Int → Prop} {R : Prop} (h : P n) : (∃ i, [V.int n] = [.int i] ∧ P i) ∨ R := .inl ⟨n, rfl, h⟩
theorem ex_int {n : Int} {P : Int → Prop} (h : P n) : ∃ i, [V.int n] = [.int i] ∧ P i := ⟨n, rfl, h⟩
theorem i_len {x : V} {n : Nat} (e : LenV K x H n) (q : Q (.int n) H) : (fun xs H Q => ∃ x n, xs = [x] ∧ LenV K x H n ∧ Q (.int n) H : List V → Hp → VK → Prop) [x] H Q := ⟨x, n, rfl, e, q⟩
theorem i_fld {ta : TE} {f : Str} (q : ta σ H fun x H1 => ∃ a C dx fs v, x = .ref a ∧ H1 a = some (.ins C dx fs) ∧ Cls K C ∧ NoAttr K C f ∧ fs.lookup f = some v ∧ Q v H1) : tFld K ta f σ H Q := q
theorem i_bm {T : String} {r : V → List V → Hp → VK → Prop} {to : TE} {t : TA} (q : to σ H fun x H1 => tyV K T x H1 ∧ t σ H1 fun xs H2 => r x xs H2 Q) : tBM K T r to t σ H Q := q
theorem iteD {c : Prop} [Decidable c] {A B : Prop} (h1 : c → A) (h2 : ¬ c → B) : if decide c = true then A else B := by
  by_cases h : c
  · rw [decide_eq_true h, if_pos rfl]
    exact h1 h
  · rw [decide_eq_false h, if_neg Bool.false_ne_true]
    exact h2 h
theorem iteDN {c : Prop} [Decidable c] {A B : Prop} (h1 : ¬ c → A) (h2 : c → B) : if (!decide c) = true then A else B := by
  by_cases h : c
  · rw [decide_eq_true h, if_neg (by decide)]
    exact h2 h
  · rw [decide_eq_false h, if_pos (by decide)]
    exact h1 h
theorem iteB {b : Bool} {A B : Prop} (h1 : b = true → A) (h2 : b = false → B) : if b = true then A else B := by
  cases b with
  | true => rw [if_pos rfl]; exact h1 rfl
  | false => rw [if_neg Bool.false_ne_true]; exact h2 rfl
end
abbrev AS := Addr → Prop
/-- all but the objects of T stands -/
def Kp (T : AS) (H H' : Hp) : Prop := ∀ b o, ¬ T b → H b = some o → H' b = some o
/-- what is tracked -/
def Old (H : Hp) : AS := fun b => ∃ o, H b = some o
theorem Kp.refl {T : AS} {H : Hp} : Kp T H H := fun _ _ _ h => h
theorem Kp.trans {T : AS} {H H1 H2 : Hp} (a : Kp T H H1) (b : Kp T H1 H2) : Kp T H H2 := fun c o n h => b c o n (a c o n h)
theorem Kp.mono {T T' : AS} {H H' : Hp} (k : Kp T H H') (h : ∀ a, T a → T' a) : Kp T' H H' := fun b o n e => k b o (fun z => n (h b z)) e
theorem Kp.of_same {T : AS} {H H' : Hp} (s : Same H H') : Kp T H H' := fun b o _ e => s b o e
theorem Kp.same {H H' : Hp} (k : Kp (fun _ => False) H H') : Same H H' := fun b o e => k b o (fun z => z) e
theorem Kp.laid {T : AS} {H : Hp} {p : Addr} {o : HO} (h : H p = none) : Kp T H (upd H p o) := fun b u _ e => by
  rw [upd_ne (ne_of_none e h)]
  exact e
theorem Kp.wrote {T : AS} {H : Hp} {p : Addr} {o : HO} (h : T p) : Kp T H (upd H p o) := fun b u n e => by
  rw [upd_ne (fun z => n (by rw [z]; exact h))]
  exact e
theorem same_laid {H : Hp} {p : Addr} {o : HO} (h : H p = none) : Same H (upd H p o) := fun b u e => by
  rw [upd_ne (ne_of_none e h)]
  exact e
theorem Old.none {H : Hp} {p : Addr} (h : H p = none) : ¬ Old H p := fun ⟨o, e⟩ => by
  rw [h] at e
  cases e
/-- a source of draws -/
def Src (H : Hp) (a : Addr) : Prop := ∃ x y z : Int, H a = some (.lst [.int x, .int y, .int z])
def Srcs (S : AS) (H : Hp) : Prop := ∀ a, S a → Src H a
/-- from H to H': the sources stand, all else that stood stands -/
structure Ev (S : AS) (H H' : Hp) : Prop where
  kp : Kp S H H'
  src : Srcs S H'
theorem Srcs.old {S : AS} {H : Hp} (s : Srcs S H) {a : Addr} (h : S a) : Old H a := let ⟨_, _, _, e⟩ := s a h; ⟨_, e⟩
theorem Srcs.notin {S : AS} {H : Hp} (s : Srcs S H) {p : Addr} (h : H p = none) : ¬ S p := fun z => Old.none h (s.old z)
theorem Srcs.nottup {S : AS} {H : Hp} (s : Srcs S H) {p : Addr} {xs : List V} (h : H p = some (.tup xs)) : ¬ S p := fun z => by
  obtain ⟨x, y, w, e⟩ := s p z
  rw [h] at e
  cases e
theorem Srcs.notins {S : AS} {H : Hp} (s : Srcs S H) {p C dx : Addr} {fs : List (Str × V)} (h : H p = some (.ins C dx fs)) : ¬ S p := fun z => by
  obtain ⟨x, y, w, e⟩ := s p z
  rw [h] at e
  cases e
theorem Ev.free {S : AS} {H H' : Hp} (e : Ev S H H') {p : Addr} (h : H' p = none) : H p = none := by
  cases q : H p with
  | none => rfl
  | some o =>
    have z := e.kp p o (e.src.notin h) q
    rw [h] at z
    cases z
theorem Ev.refl {S : AS} {H : Hp} (s : Srcs S H) : Ev S H H := ⟨.refl, s⟩
theorem Ev.trans {S : AS} {H H1 H2 : Hp} (a : Ev S H H1) (b : Ev S H1 H2) : Ev S H H2 := ⟨a.kp.trans b.kp, b.src⟩
theorem Srcs.kp {S : AS} {H H' : Hp} (s : Srcs S H) (k : Same H H') : Srcs S H' := fun a ha => by
  obtain ⟨x, y, z, e⟩ := s a ha
  exact ⟨x, y, z, k _ _ e⟩
theorem Ev.of_same {S : AS} {H H' : Hp} (s : Srcs S H) (k : Same H H') : Ev S H H' := ⟨.of_same k, s.kp k⟩
theorem Ev.laid {S : AS} {H : Hp} {p : Addr} {o : HO} (s : Srcs S H) (h : H p = none) : Ev S H (upd H p o) := .of_same s (same_laid h)
theorem Ev.wrote {S : AS} {H : Hp} {p : Addr} {x y z : Int} (s : Srcs S H) (h : S p) : Ev S H (upd H p (.lst [.int x, .int y, .int z])) := ⟨.wrote h, fun a ha => by
  by_cases e : a = p
  · exact ⟨x, y, z, by rw [e]; exact upd_same⟩
  · obtain ⟨x', y', z', q⟩ := s a ha
    exact ⟨x', y', z', by rw [upd_ne e]; exact q⟩⟩
theorem Ev.old {S : AS} {H H' : Hp} (e : Ev S H H') (s : Srcs S H) {a : Addr} (h : Old H a) : Old H' a := by
  obtain ⟨o, q⟩ := h
  by_cases z : S a
  · exact e.src.old z
  · exact ⟨o, e.kp a o z q⟩
end U
namespace U
open PySem PySem.Spec PyProof.Rows L2
section
variable {X : Cx} {tg : Expr}
def iSeq (K : PySem.W.Frag) (tl : TE) : TI := fun σ H R => tl σ H fun x H1 => ∃ a, x = .ref a ∧ (((∃ xs, SqL K H1 a xs) ∧ R (Itl K a) H1) ∨ ((∃ xs, SqT K H1 a xs) ∧ R (Itt K a) H1))
theorem pi_seq {l : Expr} {tl : TE} (hl : PE X l tl) : PI X tg l (iSeq X.K tl) := by
  refine ⟨fun pins s σ H R I h => ?_⟩
  refine thn (hl.run pins s σ H _ I h) fun v s1 ⟨x, H1, I1, r1, q1⟩ => ?_
  obtain ⟨a, e, q1⟩ := q1
  subst e
  cases r1
  rcases q1 with ⟨⟨xs, hq⟩, q⟩ | ⟨⟨xs, hq⟩, q⟩
  · obtain ⟨its, rv, p, hz⟩ := I1.list hq
    refine wpAny_pyIter_list p.isList ?_
    refine ⟨s1.heap.objs.size, [s1.heap.objs.size], _, _, H1, rfl, I1.kept (t' := s1.toks) fun b o e => Heap.get?_push_of_some _ e, turn_list a _, ⟨_, Heap.get?_push_size _ rfl, rfl, rfl⟩, fun b hb => ?_, q⟩
    have e : b = s1.heap.objs.size := by simpa using hb
    subst e
    exact I1.fpOk (Nat.le_refl _) (I1.hok.fresh (Nat.le_refl _))
  · obtain ⟨its, rv, p, hz⟩ := I1.tuple hq
    refine wpAny_pyIter_tuple (show s1.heap.IsTuple a its.toArray from p) ?_
    refine ⟨s1.heap.objs.size, [s1.heap.objs.size], _, _, H1, rfl, I1.kept (t' := s1.toks) fun b o e => Heap.get?_push_of_some _ e, turn_tuple a _, ⟨_, Heap.get?_push_size _ rfl, rfl, rfl⟩, fun b hb => ?_, q⟩
    have e : b = s1.heap.objs.size := by simpa using hb
    subst e
    exact I1.fpOk (Nat.le_refl _) (I1.hok.fresh (Nat.le_refl _))
/-- enumerate(tuple) -/
def IteT (K : PySem.W.Frag) (a : Addr) : It :=
  ⟨fun i H => ∃ (xs : List V) (x : V), SqT K H a xs ∧ xs[i]? = some x, fun i H v H' => ∃ T x, v = .ref T ∧ H T = none ∧ H' = upd H T (.tup [.int (i : Nat), x]) ∧ ∀ xs, SqT K H a xs → xs[i]? = some x, fun i H => ∃ xs : List V, SqT K H a xs ∧ xs.length = i⟩
theorem turn_enumT {P : Program} {w : World} {K : PySem.W.Frag} {elts : List Expr} {kk : Nat} {tpos : Pos} (a e it : Addr) :
    Turn P w K (.Tuple elts kk tpos) (IteT K a) [e, it] e (fun i h => (∃ old, IsEnum h e it ((i : Nat) : Int) old) ∧ h.IsTupleIter it a i ∧ e ≠ it) where
  mem := by simp
  obj := fun i h st b hb => by
    obtain ⟨⟨old, he⟩, ⟨o, ho, hc, hd⟩, _⟩ := st
    have e' : b = e ∨ b = it := by simpa using hb
    rcases e' with z | z
    · rw [z]; exact ⟨_, he, fun v q => nomatch q⟩
    · rw [z]; exact ⟨o, ho, fun v q => by rw [hd] at q; cases q⟩
  keep := fun i h h' st k => let ⟨⟨old, he⟩, hi, hne⟩ := st; ⟨⟨old, k e (by simp) _ he⟩, hi.at fun o q => k it (by simp) o q, hne⟩
  item := by
    intro X hP hw hK hc i pins s σ H E I hf st hg
    subst hP hw hK
    obtain ⟨⟨old, he⟩, hit, hne⟩ := st
    obtain ⟨xs, x, hq, hx⟩ := hg
    obtain ⟨its, rv, p, hz⟩ := I.tuple hq
    obtain ⟨u, hu, ru⟩ := rv.get hx
    have hel : e < s.heap.objs.size := Heap.lt_size he
    have hil : it < s.heap.objs.size := by obtain ⟨_, q, _⟩ := hit; exact Heap.lt_size q
    have hli : i < its.toArray.size := by
      have := (List.getElem?_eq_some_iff.mp hu).1
      simpa using this
    have nea : a ≠ it := fun z => by
      obtain ⟨o, h1, h2, h3⟩ := hit
      obtain ⟨o', g1, g2, _⟩ := p
      rw [z] at g1
      rw [h1] at g1
      cases g1
      rw [g2] at h2
      exact absurd h2 (by decide)
    have nee : e ≠ a := fun z => by
      obtain ⟨o', g1, g2, _⟩ := p
      rw [← z] at g1
      have he' : s.heap.get? e = some _ := he
      rw [he'] at g1
      cases g1
      have g3 : (Value.type "enumerate" : Value) = .type "tuple" := g2
      exact absurd g3 (by decide)
    refine wpAny_pyNext_enum_itemC (Draws.tuple (prog := X.prog) (w := X.w) (A := X.A.in1) (I.ok.hd hc) it a nea its.toArray) he ⟨hit, p⟩ hli hne (by simp only [List.mem_cons, List.not_mem_nil, or_false, not_or]; exact ⟨hne, nee⟩) fun y h' tk hP ho hit' hT hsz hk => ?_
    have ey : y = u := by
      have h2 : its.toArray[i]? = some y := hP
      rw [List.getElem?_toArray] at h2
      rw [hu] at h2
      exact (Option.some.inj h2).symm
    subst ey
    refine ⟨_, rfl, wpAny_letOwnedTupleGo_enum (s := { s with heap := h', toks := tk + 1 }) ho fun h'' he' sb => ?_⟩
    have hT2 : h''.get? s.heap.objs.size = some { cls := .type "tuple", data := .seq #[.int i tk, y] } := (sb.2 _ (Nat.ne_of_gt hel)).trans hT
    have new : ObjOk X.prog X.w (upd H s.heap.objs.size (.tup [.int (i : Nat), x])) h'' s.heap.objs.size (.tup [.int (i : Nat), x]) :=
      ⟨by show 2 ≤ sizeLine; decide, [.int i tk, y], .cons ⟨_, rfl⟩ (.cons ru .nil), ⟨_, hT2, rfl, _, rfl⟩⟩
    have I1 : Inv X pins σ (upd H s.heap.objs.size (.tup [.int (i : Nat), x])) { s with heap := h'', toks := tk + 1 } :=
      I.turnedNew (ch := [e, it]) (fun b ob hb q => (sb.2 b (fun z => hb (by simp [z]))).trans (hk b ob (fun z => hb (by simp [z])) (fun z => hb (by simp [z])) q)) hf (Nat.le_refl _) new
    refine ⟨.ref s.heap.objs.size, _, I1, rfl, ⟨_, x, rfl, I.hok.fresh (Nat.le_refl _), rfl, fun ys hy => by rw [I.tuple_inj hy hq]; exact hx⟩, ⟨⟨y, ?_⟩, hit'.1.at fun o q => (sb.2 it (Ne.symm hne)).trans q, hne⟩, fun b hb => ?_⟩
    · have e1 : ((i + 1 : Nat) : Int) = (i : Int) + 1 := by omega
      rw [e1]; exact he'
    · have hb' : b < s.heap.objs.size := by
        have e' : b = e ∨ b = it := by simpa using hb
        rcases e' with z | z
        · rw [z]; exact hel
        · rw [z]; exact hil
      rw [upd_ne (Nat.ne_of_lt hb')]
      exact (hf b hb).1
  done := by
    intro X hP hw hK hc i pins s σ H E I hf st hg
    subst hP hw hK
    obtain ⟨⟨old, he⟩, hit, hne⟩ := st
    obtain ⟨xs, hq, hx⟩ := hg
    obtain ⟨its, rv, p, hz⟩ := I.tuple hq
    obtain ⟨f0, f1, f2, f3, f4, f5⟩ := hf it (by simp)
    have hl := rv.length
    have nea : a ≠ it := fun z => by
      obtain ⟨o, h1, h2, h3⟩ := hit
      obtain ⟨o', g1, g2, _⟩ := p
      rw [z] at g1
      rw [h1] at g1
      cases g1
      rw [g2] at h2
      exact absurd h2 (by decide)
    have hsz : its.toArray.size = i := by
      rw [List.size_toArray, ← hl, hx]
    have DD := Draws.tuple (prog := X.prog) (w := X.w) (A := X.A.in1) (I.ok.hd hc) it a nea its.toArray
    rw [hsz] at DD
    exact wpAny_pyNext_enum_endD (n := i) DD he ⟨hit, p⟩ fun h' eb => ⟨rfl, I.turned (t' := s.toks) (fun b o hb q => eb b o hb q) f0 f1 f3 f4 f5⟩
  self := fun A i s Q E st h => let ⟨⟨_, he⟩, _⟩ := st; wpAny_pyIter_enum he h
theorem call_enumerate_tuple {prog : Program} {w : World} {A : Around} {E : Value → Shared → Prop} {s : Shared} {l : Addr} {items : Array Value} {Q : Value → Shared → Prop} (hL : s.heap.IsTuple l items)
    (h : ∀ h', IsEnum h' (s.heap.objs.size + 1) s.heap.objs.size 0 .none → h'.IsTupleIter s.heap.objs.size l 0 → h'.objs.size = s.heap.objs.size + 2 →
      (∀ b o, s.heap.get? b = some o → h'.get? b = some o) → Q (.ref (s.heap.objs.size + 1)) { s with heap := h' }) :
    wpAny (model prog w) A (call (.type "enumerate") [.ref l]) Q E s := by
  have M : Meets (Builtin.«enumerate.__new__» ⟨[.type "enumerate", .ref l], []⟩) (fun _ R s => s.heap.IsTuple l items ∧
      R (.ok (.ret (.ref (s.heap.push { cls := .type "tuple_iterator", data := .fields #[.ref l, .int 0 0] }).objs.size)))
        { s with heap := (s.heap.push { cls := .type "tuple_iterator", data := .fields #[.ref l, .int 0 0] }).push { cls := .type "enumerate", data := .fields #[.none, .bool false, .ref s.heap.objs.size, rawInt 0, .none, .none] } }) :=
    .of_wp fun prog w A R s h => by
      obtain ⟨hp, g, d, tk, os⟩ := s; obtain ⟨hl, h⟩ := h
      have hsub := sub_enumerate
      have hL : Heap.IsTuple (Shared.heap ⟨hp, g, d, tk, os⟩) l items := hl
      wp_walk using wpAny_pyIter_tuple hL
      refine wpAny_stack_any fun st => wpAny_pure ?_
      split
      · rename_i c _ _ _ _ _
        cases (c == Value.type "enumerate")
        · wp_walk using wpAny_pyIter_tuple hL
          exact ⟨_, rfl, h⟩
        · wp_walk using wpAny_pyIter_tuple hL
          exact ⟨_, rfl, h⟩
      · wp_walk using wpAny_pyIter_tuple hL
        exact ⟨_, rfl, h⟩
  refine callType_new F.called_enumerate (by decide) (F.typeCall_enumerate_1 _) (F.newCall_enumerate_1 _) (fun obj => F.args_object_init_2 obj _) F.entry_enumerate_new
    M ⟨hL, ?_⟩
  have hz : (s.heap.push { cls := .type "tuple_iterator", data := .fields #[.ref l, .int 0 0] }).objs.size = s.heap.objs.size + 1 := Heap.size_push ..
  show _ ∧ _
  rw [hz]
  have he : IsEnum ((s.heap.push { cls := .type "tuple_iterator", data := .fields #[.ref l, .int 0 0] }).push
      { cls := .type "enumerate", data := .fields #[.none, .bool false, .ref s.heap.objs.size, rawInt 0, .none, .none] }) (s.heap.objs.size + 1) s.heap.objs.size 0 .none := by
    have := Heap.get?_push_size (s.heap.push { cls := .type "tuple_iterator", data := .fields #[.ref l, .int 0 0] })
      (o := { cls := .type "enumerate", data := .fields #[.none, .bool false, .ref s.heap.objs.size, rawInt 0, .none, .none] }) rfl
    rw [hz] at this; exact this
  refine ⟨⟨_, he, rfl⟩, h _ he ⟨_, Heap.get?_push_of_some _ (Heap.get?_push_size _ rfl), rfl, rfl⟩ (by rw [Heap.size_push, hz]) fun b o x => Heap.get?_push_of_some _ (Heap.get?_push_of_some _ x)⟩
/-- enumerate(list or tuple) -/
def iEnumR (K : PySem.W.Frag) (ta : TA) : TI := fun σ H R => ta σ H fun vs H1 => ∃ a, vs = [.ref a] ∧ (((∃ xs, SqL K H1 a xs) ∧ R (Ite K a) H1) ∨ ((∃ xs, SqT K H1 a xs) ∧ R (IteT K a) H1))
theorem pi_enumR {e : Expr} {ta : TA} {p pos tpos : Pos} {elts : List Expr} {kk : Nat} (hg : Gl X "enumerate") (hm : X.mg "enumerate" = none) (ha : PA X [e] ta) (hs : starEach [e] X.env = [(false, eval e X.env)] := by rfl) :
    PI X (.Tuple elts kk tpos) (.Call (.Name "enumerate" p) [e] [] pos) (iEnumR X.K ta) := by
  refine ⟨fun pins s σ H R I h => ?_⟩
  refine Call_ (ld_blt I hg hm boot_enumerate (PyProof.Rows.callWith_type1 (thn (ha.run pos pins s σ H _ I h) fun us s1 ⟨vs, H1, I1, r1, q1⟩ => ?_) hs rfl))
  obtain ⟨a, ex, q1⟩ := q1
  subst ex
  have new : ∀ b ∈ [s1.heap.objs.size + 1, s1.heap.objs.size], FpOk X pins H1 b := fun b hb => by
    have e' : b = s1.heap.objs.size + 1 ∨ b = s1.heap.objs.size := by simpa using hb
    have hle : s1.heap.objs.size ≤ b := by
      rcases e' with z | z
      · rw [z]; exact Nat.le_add_right _ _
      · rw [z]; exact Nat.le_refl _
    exact I1.fpOk hle (I1.hok.fresh hle)
  cases r1 with
  | cons r rr =>
    cases rr
    cases r
    rcases q1 with ⟨⟨xs, hq⟩, q⟩ | ⟨⟨xs, hq⟩, q⟩
    · obtain ⟨its, rv, p', hz⟩ := I1.list hq
      refine call_enumerate_list p'.isList fun h' he hit hsz hk => wpAny_pyIter_enum he ?_
      have I2 : Inv X pins σ H1 { s1 with heap := h' } := I1.kept (t' := s1.toks) hk
      exact ⟨s1.heap.objs.size + 1, [s1.heap.objs.size + 1, s1.heap.objs.size], _, _, H1, rfl, I2, turn_enum a (s1.heap.objs.size + 1) s1.heap.objs.size, ⟨⟨.none, he⟩, hit, Nat.succ_ne_self _⟩, new, q⟩
    · obtain ⟨its, rv, p', hz⟩ := I1.tuple hq
      refine call_enumerate_tuple (items := its.toArray) p' fun h' he hit hsz hk => wpAny_pyIter_enum he ?_
      have I2 : Inv X pins σ H1 { s1 with heap := h' } := I1.kept (t' := s1.toks) hk
      exact ⟨s1.heap.objs.size + 1, [s1.heap.objs.size + 1, s1.heap.objs.size], _, _, H1, rfl, I2, turn_enumT a (s1.heap.objs.size + 1) s1.heap.objs.size, ⟨⟨.none, he⟩, hit, Nat.succ_ne_self _⟩, new, q⟩
/-- enumerate(text) -/
def IteS (z : Str) : It :=
  ⟨fun i H => i < z.cps.size, fun i H v H' => ∃ T c, v = .ref T ∧ H T = none ∧ H' = upd H T (.tup [.int (i : Nat), .str ⟨#[c]⟩]) ∧ z.cps[i]? = some c, fun i H => i = z.cps.size⟩
theorem turn_enumS {P : Program} {w : World} {K : PySem.W.Frag} {elts : List Expr} {kk : Nat} {tpos : Pos} (z : Str) (t : Tok) (e it : Addr) :
    Turn P w K (.Tuple elts kk tpos) (IteS z) [e, it] e (fun i h => (∃ old, IsEnum h e it ((i : Nat) : Int) old) ∧ h.IsStrIter it (strIterType z) z t i ∧ e ≠ it) where
  mem := by simp
  obj := fun i h st b hb => by
    obtain ⟨⟨old, he⟩, hit, _⟩ := st
    have e' : b = e ∨ b = it := by simpa using hb
    rcases e' with z | z
    · rw [z]; exact ⟨_, he, fun v q => nomatch q⟩
    · rw [z]
      obtain ⟨o, ho, hc, hd⟩ := hit
      exact ⟨o, ho, fun v q => by rw [hd] at q; cases q⟩
  keep := fun i h h' st k => let ⟨⟨old, he⟩, ⟨o, h1, h2, h3⟩, hne⟩ := st; ⟨⟨old, k e (by simp) _ he⟩, ⟨o, k it (by simp) o h1, h2, h3⟩, hne⟩
  item := by
    intro X hP hw hK hc i pins s σ H E I hf st hg
    subst hP hw hK
    obtain ⟨⟨old, he⟩, hit, hne⟩ := st
    have hel : e < s.heap.objs.size := Heap.lt_size he
    have hil : it < s.heap.objs.size := by obtain ⟨_, q, _⟩ := hit; exact Heap.lt_size q
    refine wpAny_pyNext_enum_itemC (Draws.text (prog := X.prog) (w := X.w) (A := X.A.in1) (I.ok.hd hc) it z t) he hit hg hne (by simpa using hne) fun y h' tk hP ho hit' hT hsz hk => ?_
    obtain ⟨c, u, hcu, rfl⟩ := hP
    refine ⟨_, rfl, wpAny_letOwnedTupleGo_enum (s := { s with heap := h', toks := tk + 1 }) ho fun h'' he' sb => ?_⟩
    have hT2 : h''.get? s.heap.objs.size = some { cls := .type "tuple", data := .seq #[.int i tk, .str ⟨#[c]⟩ u] } := (sb.2 _ (Nat.ne_of_gt hel)).trans hT
    have new : ObjOk X.prog X.w (upd H s.heap.objs.size (.tup [.int (i : Nat), .str ⟨#[c]⟩])) h'' s.heap.objs.size (.tup [.int (i : Nat), .str ⟨#[c]⟩]) :=
      ⟨by show 2 ≤ sizeLine; decide, [.int i tk, .str ⟨#[c]⟩ u], .cons ⟨_, rfl⟩ (.cons ⟨_, rfl⟩ .nil), ⟨_, hT2, rfl, _, rfl⟩⟩
    have I1 : Inv X pins σ (upd H s.heap.objs.size (.tup [.int (i : Nat), .str ⟨#[c]⟩])) { s with heap := h'', toks := tk + 1 } :=
      I.turnedNew (ch := [e, it]) (fun b ob hb q => (sb.2 b (fun z => hb (by simp [z]))).trans (hk b ob (fun z => hb (by simp [z])) (fun z => hb (by simp [z])) q)) hf (Nat.le_refl _) new
    refine ⟨.ref s.heap.objs.size, _, I1, rfl, ⟨_, c, rfl, I.hok.fresh (Nat.le_refl _), rfl, hcu⟩, ⟨⟨.str ⟨#[c]⟩ u, ?_⟩, ?_, hne⟩, fun b hb => ?_⟩
    · have e1 : ((i + 1 : Nat) : Int) = (i : Int) + 1 := by omega
      rw [e1]; exact he'
    · obtain ⟨o, h1, h2, h3⟩ := hit'
      exact ⟨o, (sb.2 it (Ne.symm hne)).trans h1, h2, h3⟩
    · have hb' : b < s.heap.objs.size := by
        have e' : b = e ∨ b = it := by simpa using hb
        rcases e' with z | z
        · rw [z]; exact hel
        · rw [z]; exact hil
      rw [upd_ne (Nat.ne_of_lt hb')]
      exact (hf b hb).1
  done := by
    intro X hP hw hK hc i pins s σ H E I hf st hg
    subst hP hw hK
    obtain ⟨⟨old, he⟩, hit, hne⟩ := st
    obtain ⟨f0, f1, f2, f3, f4, f5⟩ := hf it (by simp)
    have hg' : i = z.cps.size := hg
    subst hg'
    exact wpAny_pyNext_enum_endD (Draws.text (prog := X.prog) (w := X.w) (A := X.A.in1) (I.ok.hd hc) it z t) he hit fun h' eb => ⟨rfl, I.turned (t' := s.toks) (fun b o hb q => eb b o hb q) f0 f1 f3 f4 f5⟩
  self := fun A i s Q E st h => let ⟨⟨_, he⟩, _⟩ := st; wpAny_pyIter_enum he h
def iEnumS (ta : TA) : TI := fun σ H R => ta σ H fun vs H1 => ∃ z, vs = [.str z] ∧ R (IteS z) H1
theorem pi_enumS {e : Expr} {ta : TA} {p pos tpos : Pos} {elts : List Expr} {kk : Nat} (hg : Gl X "enumerate") (hm : X.mg "enumerate" = none) (ha : PA X [e] ta) (hs : starEach [e] X.env = [(false, eval e X.env)] := by rfl) :
    PI X (.Tuple elts kk tpos) (.Call (.Name "enumerate" p) [e] [] pos) (iEnumS ta) := by
  refine ⟨fun pins s σ H R I h => ?_⟩
  refine Call_ (ld_blt I hg hm boot_enumerate (PyProof.Rows.callWith_type1 (thn (ha.run pos pins s σ H _ I h) fun us s1 ⟨vs, H1, I1, r1, q1⟩ => ?_) hs rfl))
  obtain ⟨z, ex, q⟩ := q1
  subst ex
  have new : ∀ b ∈ [s1.heap.objs.size + 1, s1.heap.objs.size], FpOk X pins H1 b := fun b hb => by
    have e' : b = s1.heap.objs.size + 1 ∨ b = s1.heap.objs.size := by simpa using hb
    have hle : s1.heap.objs.size ≤ b := by
      rcases e' with z | z
      · rw [z]; exact Nat.le_add_right _ _
      · rw [z]; exact Nat.le_refl _
    exact I1.fpOk hle (I1.hok.fresh hle)
  cases r1 with
  | cons r rr =>
    cases rr
    obtain ⟨t, rfl⟩ := r
    refine call_enumerate_str fun h' he hit hsz hk => wpAny_pyIter_enum he ?_
    have I2 : Inv X pins σ H1 { s1 with heap := h' } := I1.kept (t' := s1.toks) hk
    exact ⟨s1.heap.objs.size + 1, [s1.heap.objs.size + 1, s1.heap.objs.size], _, _, H1, rfl, I2, turn_enumS z t (s1.heap.objs.size + 1) s1.heap.objs.size, ⟨⟨.none, he⟩, hit, Nat.succ_ne_self _⟩, new, q⟩
end
end U
namespace U
open PySem PySem.Spec PyProof.Rows L2

mutual
/-- the value v is the key k -/
inductive NK (H : Hp) : NestedKey → V → Prop where
  | non : NK H .none .non
  | bl (b : Bool) : NK H (.num (if b = true then 1 else 0)) (.bl b)
  | int (i : Int) : NK H (.num i) (.int i)
  | str (x : Str) : NK H (.text x) (.str x)
  | nil {a : Addr} (h : H a = some (.tup [])) : NK H (.tup []) (.ref a)
  | cons {a : Addr} {k : NestedKey} {ks : List NestedKey} {v : V} {vs : List V} (h : H a = some (.tup (v :: vs))) (hk : NK H k v) (hks : NKs' H ks vs) : NK H (.tup (k :: ks)) (.ref a)
inductive NKs' (H : Hp) : List NestedKey → List V → Prop where
  | nil : NKs' H [] []
  | cons {k : NestedKey} {ks : List NestedKey} {v : V} {vs : List V} (hk : NK H k v) (hks : NKs' H ks vs) : NKs' H (k :: ks) (v :: vs)
end
/-- tuples stay -/
def TKp (H H' : Hp) : Prop := ∀ b vs, H b = some (.tup vs) → H' b = some (.tup vs)
theorem NK.tup {H : Hp} {a : Addr} {ks : List NestedKey} {vs : List V} (h : H a = some (.tup vs)) (hk : NKs' H ks vs) : NK H (.tup ks) (.ref a) := by
  cases hk with
  | nil => exact .nil h
  | cons a b => exact .cons h a b
mutual
theorem NK.kp {H H' : Hp} (t : TKp H H') : ∀ {k : NestedKey} {v : V}, NK H k v → NK H' k v
  | _, _, .non => .non
  | _, _, .bl b => .bl b
  | _, _, .int i => .int i
  | _, _, .str x => .str x
  | _, _, .nil h => .nil (t _ _ h)
  | _, _, .cons h a b => .cons (t _ _ h) (NK.kp t a) (NKs'.kp t b)
theorem NKs'.kp {H H' : Hp} (t : TKp H H') : ∀ {ks : List NestedKey} {vs : List V}, NKs' H ks vs → NKs' H' ks vs
  | _, _, .nil => .nil
  | _, _, .cons a b => .cons (NK.kp t a) (NKs'.kp t b)
end
section
variable {X : Cx} {pins : List (Addr × Obj)} {σ : L2.St} {H : Hp} {s : Shared}
mutual
theorem NK.is (I : Inv X pins σ H s) : ∀ {k : NestedKey} {v : V} {u : Value}, NK H k v → RelV v u → NestedIs s.heap k u
  | _, _, u, .non, r => by
    obtain rfl : u = Value.none := r
    exact .none
  | _, _, u, .bl b, r => by
    obtain rfl : u = Value.bool b := r
    exact .bool rfl
  | _, _, u, .int i, r => by
    obtain ⟨t, rfl⟩ := r
    exact .int i t
  | _, _, u, .str x, r => by
    obtain ⟨t, rfl⟩ := r
    exact .text x t
  | _, _, u, .nil (a := a) h, r => by
    obtain rfl : u = Value.ref a := r
    obtain ⟨_, its, rv, o, h1, h2, n, h3⟩ := (show ObjOk X.prog X.w H s.heap a (.tup []) from I.hok a _ h)
    cases rv
    exact .tup h1 h2 h3 .nil
  | _, _, u, .cons (a := a) (v := v) (vs := vs) h hk hks, r => by
    obtain rfl : u = Value.ref a := r
    obtain ⟨_, its, rv, o, h1, h2, n, h3⟩ := (show ObjOk X.prog X.w H s.heap a (.tup (v :: vs)) from I.hok a _ h)
    cases rv with
    | cons r1 r2 => exact .tup h1 h2 h3 (.cons (NK.is I hk r1) (NKs'.is I hks r2))
theorem NKs'.is (I : Inv X pins σ H s) : ∀ {ks : List NestedKey} {vs : List V} {us : List Value}, NKs' H ks vs → Vals vs us → NestedAll s.heap ks us
  | _, _, _, .nil, .nil => .nil
  | _, _, _, .cons a b, .cons r1 r2 => .cons (NK.is I a r1) (NKs'.is I b r2)
end
end

def NEnts (P : Program) (w : World) (d : Addr) (xs : List (NestedKey × Addr × Value)) : Heap → Prop := fun h =>
  ∃ o es ep, h.get? d = some o ∧ o.ExactDict ∧ o.data = .dict es ep ∧ es.toList = xs.map (entryOfKey (nestedKind P w)) ∧ (xs.map (·.1)).Nodup
def PairN (kvs : List (NestedKey × V)) (xs : List (NestedKey × Addr × Value)) : Prop := Paired (fun (p : NestedKey × V) (q : NestedKey × Addr × Value) => p.1 = q.1 ∧ RelV p.2 q.2.2) kvs xs
structure NDict (P : Program) (w : World) (H : Hp) (d : Addr) (kvs : List (NestedKey × V)) : Prop where
  ex : ∃ xs, H d = some (.ext (NEnts P w d xs)) ∧ (∀ x ∈ xs, NK H x.1 (.ref x.2.1) ∧ x.1.depth ≤ 8) ∧ PairN kvs xs
  nz : (d == sysModules) = false
  len : kvs.length ≤ sizeLine
def lookN (kvs : List (NestedKey × V)) (k : NestedKey) : Option V := (kvs.find? fun kv => decide (kv.1 = k)).map (·.2)
def putN (kvs : List (NestedKey × V)) (k : NestedKey) (v : V) : List (NestedKey × V) := if (lookN kvs k).isSome = true then kvs.map (fun kv => if kv.1 = k then (kv.1, v) else kv) else kvs ++ [(k, v)]
theorem NDict.kp {P : Program} {w : World} {H H' : Hp} {d : Addr} {kvs : List (NestedKey × V)} (n : NDict P w H d kvs) (t : TKp H H') (e : H' d = H d) : NDict P w H' d kvs := by
  obtain ⟨xs, h1, h2, h3⟩ := n.ex
  exact ⟨⟨xs, e.trans h1, fun x hx => ⟨(h2 x hx).1.kp t, (h2 x hx).2⟩, h3⟩, n.nz, n.len⟩
theorem PairN.look : ∀ {kvs : List (NestedKey × V)} {xs : List (NestedKey × Addr × Value)} {k : NestedKey}, PairN kvs xs →
    (lookN kvs k = none ∧ atKey xs k = none) ∨ ∃ v p, lookN kvs k = some v ∧ atKey xs k = some p ∧ RelV v p.2
  | _, _, k, .nil => .inl ⟨rfl, rfl⟩
  | _, _, k, .cons (a := x) (b := y) r t => by
    by_cases h : x.1 = k
    · refine .inr ⟨x.2, y.2, ?_, ?_, r.2⟩
      · simp [lookN, h]
      · simp [atKey, r.1.symm.trans h]
    · have h2 : ¬ y.1 = k := fun z => h (r.1.trans z)
      have e1 : ∀ l, lookN (x :: l) k = lookN l k := fun l => by simp [lookN, h]
      have e2 : ∀ l, atKey (y :: l) k = atKey l k := fun l => by simp [atKey, h2]
      rw [e1, e2]
      exact PairN.look t

theorem PairN.any : ∀ {kvs : List (NestedKey × V)} {xs : List (NestedKey × Addr × Value)} {k : NestedKey}, PairN kvs xs → (lookN kvs k).isSome = (atKey xs k).isSome := fun {kvs xs k} r => by
  rcases r.look (k := k) with ⟨h1, h2⟩ | ⟨v, p, h1, h2, _⟩
  · rw [h1, h2]; rfl
  · rw [h1, h2]; rfl
theorem PairN.length {kvs : List (NestedKey × V)} {xs : List (NestedKey × Addr × Value)} (r : PairN kvs xs) : kvs.length = xs.length := Paired.length r
theorem PairN.app : ∀ {kvs : List (NestedKey × V)} {xs : List (NestedKey × Addr × Value)} {k : NestedKey} {v : V} {a : Addr} {u : Value}, PairN kvs xs → RelV v u → PairN (kvs ++ [(k, v)]) (xs ++ [(k, a, u)])
  | _, _, _, _, _, _, .nil, r => .cons ⟨rfl, r⟩ .nil
  | _, _, _, _, _, _, .cons h t, r => .cons h (PairN.app t r)
theorem PairN.rep : ∀ {kvs : List (NestedKey × V)} {xs : List (NestedKey × Addr × Value)} {k : NestedKey} {v : V} {u : Value}, PairN kvs xs → RelV v u →
    PairN (kvs.map (fun kv => if kv.1 = k then (kv.1, v) else kv)) (xs.map (putAt k u))
  | _, _, _, _, _, .nil, r => .nil
  | _, _, k, v, u, .cons (a := x) (b := y) h t, r => by
    refine .cons ?_ (PairN.rep t r)
    unfold putAt
    by_cases e : x.1 = k
    · have e2 : y.1 = k := h.1.symm.trans e
      simp only [e, e2, if_true]
      exact ⟨trivial, r⟩
    · have e2 : ¬ y.1 = k := fun z => e (h.1.trans z)
      simp only [e, e2, if_false]
      exact h
theorem PairN.put {kvs : List (NestedKey × V)} {xs : List (NestedKey × Addr × Value)} {k : NestedKey} {v : V} {a : Addr} {u : Value} (p : PairN kvs xs) (r : RelV v u) : PairN (putN kvs k v) (storedH xs k a u) := by
  unfold putN storedH
  rw [p.any]
  split
  · exact p.rep r
  · exact p.app r

theorem nents_ok {P : Program} {w : World} {H : Hp} {h : Heap} {d : Addr} {xs : List (NestedKey × Addr × Value)} (e : NEnts P w d xs h) : ObjOk P w H h d (.ext (NEnts P w d xs)) := by
  obtain ⟨o, es, ep, h1, h2, h3, h4, h5⟩ := id e
  refine ⟨e, ⟨o, h1⟩, fun a b x k => ?_⟩
  obtain ⟨o', es', ep', g1, g2, g3, g4, g5⟩ := x
  exact ⟨o', es', ep', k _ g1, g2, g3, g4, g5⟩
theorem tkp_upd {H : Hp} {d : Addr} {o : HO} (h : ∀ vs, H d ≠ some (.tup vs)) : TKp H (upd H d o) := fun b vs e => by
  rw [upd_ne (fun z => h vs (by rw [← z]; exact e))]
  exact e
section
variable {X : Cx} {pins : List (Addr × Obj)} {σ : L2.St} {H : Hp} {s : Shared} {d a : Addr} {k : NestedKey} {kvs : List (NestedKey × V)} {E : Value → Shared → Prop}
theorem NDict.dict (I : Inv X pins σ H s) (n : NDict X.prog X.w H d kvs) : ∃ xs, H d = some (.ext (NEnts X.prog X.w d xs)) ∧ s.heap.DictOfH (nestedKind X.prog X.w) d xs ∧ PairN kvs xs ∧ (∀ x ∈ xs, NK H x.1 (.ref x.2.1) ∧ x.1.depth ≤ 8) := by
  obtain ⟨xs, h1, h2, h3⟩ := n.ex
  obtain ⟨⟨o, es, ep, g1, g2, g3, g4, g5⟩, _, _⟩ := (show ObjOk X.prog X.w H s.heap d (.ext (NEnts X.prog X.w d xs)) from I.hok d _ h1)
  exact ⟨xs, h1, ⟨o, es, ep, g1, g2, g3, g4, fun x hx => ⟨(h2 x hx).1.is I rfl, (h2 x hx).2⟩, g5⟩, h3, h2⟩
theorem nroom {A : Around} (hu : A.units + 64 < cLine) : (nestedKind X.prog X.w).room A.in1 := by
  show A.units + 1 + 8 < cLine
  omega
theorem nroom0 {A : Around} (hu : A.units + 64 < cLine) : (nestedKind X.prog X.w).room A := by
  show A.units + 8 < cLine
  omega
def KeyAt (H : Hp) (k : NestedKey) (y : V) : Prop := ∃ a, y = .ref a ∧ NK H k (.ref a) ∧ k.depth ≤ 8
theorem n_in {Q : VK} {iv : Value} {y : V} (hu : X.A.units + 64 < cLine) (I : Inv X pins σ H s) (n : NDict X.prog X.w H d kvs) (ky : KeyAt H k y) (ry : RelV y iv) (q : Q (.bl (lookN kvs k).isSome) H) : wpAny (model X.prog X.w) X.A (compareOp .In iv (.ref d)) (EP X pins σ Q) E s := by
  obtain ⟨a, rfl, nk, hd⟩ := ky
  obtain rfl : iv = Value.ref a := ry
  obtain ⟨xs, _, hx, hp, _⟩ := n.dict I
  refine wpAny_in_heap (nroom hu) ⟨nk.is I rfl, hd⟩ n.nz hx ?_
  rw [← hp.any]
  exact ⟨.bl _, H, I.tok _, rfl, q⟩
theorem n_notIn {Q : VK} {iv : Value} {y : V} (hu : X.A.units + 64 < cLine) (I : Inv X pins σ H s) (n : NDict X.prog X.w H d kvs) (ky : KeyAt H k y) (ry : RelV y iv) (q : Q (.bl (!(lookN kvs k).isSome)) H) : wpAny (model X.prog X.w) X.A (compareOp .NotIn iv (.ref d)) (EP X pins σ Q) E s := by
  obtain ⟨a, rfl, nk, hd⟩ := ky
  obtain rfl : iv = Value.ref a := ry
  obtain ⟨xs, _, hx, hp, _⟩ := n.dict I
  show wpAny _ _ (do return Value.bool (!(← contains (.ref d) (.ref a)))) _ E s
  refine wpAny_bind (wpAny_contains_heap (nroom hu) ⟨nk.is I rfl, hd⟩ n.nz hx (wpAny_pure ?_))
  rw [← hp.any]
  exact ⟨.bl _, H, I.tok _, rfl, q⟩
theorem n_get {Q : VK} {iv : Value} {y v : V} (hu : X.A.units + 64 < cLine) (I : Inv X pins σ H s) (n : NDict X.prog X.w H d kvs) (ky : KeyAt H k y) (ry : RelV y iv) (hv : lookN kvs k = some v) (q : Q v H) : wpAny (model X.prog X.w) X.A (getItem (.ref d) iv) (EP X pins σ Q) E s := by
  obtain ⟨a, rfl, nk, hd⟩ := ky
  obtain rfl : iv = Value.ref a := ry
  obtain ⟨xs, _, hx, hp, _⟩ := n.dict I
  rcases hp.look (k := k) with ⟨h1, _⟩ | ⟨v', p, h1, h2, h3⟩
  · rw [h1] at hv; cases hv
  · rw [h1] at hv
    cases hv
    exact wpAny_getItem_heap (nroom hu) ⟨nk.is I rfl, hd⟩ hx h2 ⟨v, H, I.tok _, h3, q⟩
theorem n_put {Q : Unit → Shared → Prop} {iv u : Value} {y v : V} (hu : X.A.units + 64 < cLine) (I : Inv X pins σ H s) (n : NDict X.prog X.w H d kvs) (ky : KeyAt H k y) (ry : RelV y iv) (rv : RelV v u) (hz : kvs.length < sizeLine)
    (q : ∀ o s', NDict X.prog X.w (upd H d o) d (putN kvs k v) → Inv X pins σ (upd H d o) s' → Q () s') : wpAny (model X.prog X.w) X.A (setItem (.ref d) iv u) Q E s := by
  obtain ⟨a, rfl, nk, hd⟩ := ky
  obtain rfl : iv = Value.ref a := ry
  obtain ⟨xs, e, hx, hp, hk⟩ := n.dict I
  refine wpAny_setItem_heap (hsz := by rw [← hp.length]; omega) (nroom hu) ⟨nk.is I rfl, hd⟩ hx fun h' hm' hs => ?_
  obtain ⟨o, es, ep, g1, g2, g3, g4, _, g5⟩ := hm'
  have tk : ∀ o', TKp H (upd H d o') := fun o' => tkp_upd fun vs z => by rw [e] at z; cases z
  refine q (.ext (NEnts X.prog X.w d (storedH xs k a u))) _ ⟨⟨_, upd_same, fun x hx' => ?_, hp.put rv⟩, n.nz, ?_⟩
    (I.write (t' := s.toks + (nestedKind X.prog X.w).draws k) (x := d) (e := d) (by rw [e]; exact True.intro) (.inl rfl) (fun b ob hb eb => (hs.2 b hb).trans eb) ⟨o, g1⟩ (nents_ok ⟨o, es, ep, g1, g2, g3, g4, g5⟩))
  · unfold storedH at hx'
    split at hx'
    · obtain ⟨z, hz1, rfl⟩ := List.mem_map.mp hx'
      have h3 := hk z hz1
      unfold putAt
      split
      · exact ⟨h3.1.kp (tk _), h3.2⟩
      · exact ⟨h3.1.kp (tk _), h3.2⟩
    · rcases List.mem_append.mp hx' with z | z
      · exact ⟨(hk x z).1.kp (tk _), (hk x z).2⟩
      · have e2 : x = (k, a, u) := by simpa using z
        subst e2
        exact ⟨nk.kp (tk _), hd⟩
  · unfold putN
    split
    · rw [List.length_map]; omega
    · rw [List.length_append, List.length_singleton]; omega
end

def tNIn (P : Program) (w : World) (ty td : TE) : TE := fun σ H Q => ty σ H fun y H1 => td σ H1 fun x H2 => ∃ d k kvs, x = .ref d ∧ NDict P w H2 d kvs ∧ KeyAt H2 k y ∧ Q (.bl (lookN kvs k).isSome) H2
def tNNotIn (P : Program) (w : World) (ty td : TE) : TE := fun σ H Q => ty σ H fun y H1 => td σ H1 fun x H2 => ∃ d k kvs, x = .ref d ∧ NDict P w H2 d kvs ∧ KeyAt H2 k y ∧ Q (.bl (!(lookN kvs k).isSome)) H2
def tNGet (P : Program) (w : World) (td ty : TE) : TE := fun σ H Q => td σ H fun x H1 => ty σ H1 fun y H2 => ∃ d k kvs v, x = .ref d ∧ NDict P w H2 d kvs ∧ KeyAt H2 k y ∧ lookN kvs k = some v ∧ Q v H2
def sNPut (P : Program) (w : World) (td ty tv : TE) : TS := fun D σ H => tv σ H fun v H1 => td σ H1 fun x H2 => ty σ H2 fun y H3 => ∃ d k kvs, x = .ref d ∧ NDict P w H3 d kvs ∧ KeyAt H3 k y ∧ kvs.length < sizeLine ∧ ∀ o, NDict P w (upd H3 d o) d (putN kvs k v) → D.nx σ (upd H3 d o)
def tNNew (P : Program) (w : World) : TE := fun _ H Q => ∀ p o, H p = none → NDict P w (upd H p o) p [] → Q (.ref p) (upd H p o)
section
variable {X : Cx} {i o value : Expr} {ty td tv : TE} {pos pos' : Pos}
theorem pc_nin (hu : X.A.units + 64 < cLine) (hi : PE X i ty) (ho : PE X o td) : PC X .In i o (tNIn X.prog X.w ty td) := by
  refine ⟨fun pins s σ H Q I h => ?_⟩
  refine thn (hi.run pins s σ H _ I h) fun iv s1 ⟨y, H1, I1, ry, q1⟩ => thn (ho.run pins s1 σ H1 _ I1 q1) fun u s2 ⟨x, H2, I2, rx, d, k, kvs, ex, n, ky, q2⟩ => ?_
  subst ex
  obtain rfl : u = Value.ref d := rx
  exact n_in hu I2 n ky ry q2
theorem pc_nnotin (hu : X.A.units + 64 < cLine) (hi : PE X i ty) (ho : PE X o td) : PC X .NotIn i o (tNNotIn X.prog X.w ty td) := by
  refine ⟨fun pins s σ H Q I h => ?_⟩
  refine thn (hi.run pins s σ H _ I h) fun iv s1 ⟨y, H1, I1, ry, q1⟩ => thn (ho.run pins s1 σ H1 _ I1 q1) fun u s2 ⟨x, H2, I2, rx, d, k, kvs, ex, n, ky, q2⟩ => ?_
  subst ex
  obtain rfl : u = Value.ref d := rx
  exact n_notIn hu I2 n ky ry q2
theorem pe_nget (hu : X.A.units + 64 < cLine) (ho : PE X o td) (hi : PE X i ty) (hs : NoSl i) : PE X (.Subscript o i pos) (tNGet X.prog X.w td ty) := by
  refine ⟨fun pins s σ H Q I h => ?_⟩
  refine subD_of PySem.F.slot_dict_getitem.lookup hs (thn (ho.run pins s σ H _ I h) fun u s1 ⟨x, H1, I1, rx, q1⟩ => thn (hi.run pins s1 σ H1 _ I1 q1) fun iv s2 ⟨y, H2, I2, ry, d, k, kvs, v, ex, n, ky, e, q2⟩ => ?_)
  subst ex
  obtain rfl : u = Value.ref d := rx
  obtain ⟨xs, _, hx, _, _⟩ := n.dict I2
  exact ⟨hx.typeIs, n_get hu I2 n ky ry e q2⟩
theorem ps_nput (hu : X.A.units + 64 < cLine) (ho : PE X o td) (hi : PE X i ty) (hv : PE X value tv) (hs : swapsWith value (some (.Subscript o i pos')) pos.line X.env = pure false) :
    PS X (.Assign [.Subscript o i pos'] value pos) (sNPut X.prog X.w td ty tv) := by
  refine ⟨fun pins s σ H D I h => ?_⟩
  refine wpAny_Assign_Subscript (thn (hv.run pins s σ H _ I h) fun r s1 ⟨v, H1, I1, rv, q1⟩ => thn (ho.run pins s1 σ H1 _ I1 q1) fun u s2 ⟨x, H2, I2, rx, q2⟩ => thn (hi.run pins s2 σ H2 _ I2 q2) fun iv s3 ⟨y, H3, I3, ry, d, k, kvs, ex, n, ky, hz, q3⟩ => ?_) hs
  subst ex
  obtain rfl : u = Value.ref d := rx
  exact n_put hu I3 n ky ry rv hz fun o s4 n4 I4 => ⟨σ, _, I4, q3 o n4⟩
theorem nempty {P : Program} {w : World} {h : Heap} : NEnts P w h.objs.size [] (h.push { cls := .type "dict", data := .dict #[] }) := ⟨_, #[], 0, Heap.get?_push_size _ rfl, ⟨rfl, rfl, rfl⟩, rfl, rfl, List.nodup_nil⟩
theorem pe_dnewN : PE X (.Dict [] [] pos) (tNNew X.prog X.w) := ⟨fun pins s σ H Q I h => by
  have hn := I.hok.fresh (Nat.le_refl s.heap.objs.size)
  refine wpAny_Dict_empty ⟨.ref s.heap.objs.size, _, I.laid (a := s.heap.objs.size) (o := .ext (NEnts X.prog X.w s.heap.objs.size [])) (t' := s.toks) (fun _ _ q => Heap.get?_push_of_some _ q) (Nat.le_refl _) (nents_ok nempty), rfl, h _ _ hn ?_⟩
  exact ⟨⟨[], upd_same, fun x hx => by simp at hx, .nil⟩, beq_eq_false_iff_ne.mpr (Ne.symm (Nat.ne_of_lt I.big)), Nat.zero_le _⟩⟩
/-- len of such a dict -/
theorem call_lenN : CallR X (.builtin "len") (fun xs H Q => ∃ d kvs, xs = [V.ref d] ∧ NDict X.prog X.w H d kvs ∧ Q (.int kvs.length) H) := by
  intro pins s σ H xs us Q I r h
  obtain ⟨d, kvs, rfl, n, q⟩ := h
  obtain ⟨u, rfl, ru⟩ := vals1 r
  cases ru
  obtain ⟨xs, _, hx, hp, _⟩ := n.dict I
  have hl := n.len
  have hd : s.heap.DictKeyed (nestedKind X.prog X.w) d (pairsH xs) := ⟨xs, hx, rfl⟩
  have e : (pairsH xs).length = kvs.length := by rw [pairsH_length, hp.length]
  refine PyProof.Rows.call_len_slot (n := ((pairsH xs).length : Nat)) hx.typeIs PySem.F.slot_dict_len (fun Q' hq => len_keyed n.nz hd hq) (by omega) (by rw [e]; rw [sizeLine_eq] at hl; omega) ?_
  rw [e]
  exact ⟨.int _, H, I.tok _, ⟨_, rfl⟩, q⟩
/-- {k: v}, k a tuple -/
def tDisp1N (P : Program) (w : World) (tk tv : TE) : TE := fun σ H Q => ∀ p o, H p = none → NDict P w (upd H p o) p [] → tk σ (upd H p o) fun y H1 => tv σ H1 fun v H2 => ∃ k, KeyAt H2 k y ∧ NDict P w H2 p [] ∧ ∀ o', NDict P w (upd H2 p o') p [(k, v)] → Q (.ref p) (upd H2 p o')
theorem pe_disp1N {k v : Expr} {tk tv : TE} (hu : X.A.units + 64 < cLine) (hk : PE X k tk) (hv : PE X v tv) : PE X (.Dict [some k] [v] pos) (tDisp1N X.prog X.w tk tv) := by
  refine ⟨fun pins s σ H Q I h => ?_⟩
  have hn := I.hok.fresh (Nat.le_refl s.heap.objs.size)
  have I1 := I.laid (a := s.heap.objs.size) (o := .ext (NEnts X.prog X.w s.heap.objs.size [])) (h' := s.heap.push { cls := .type "dict", data := .dict #[] }) (t' := s.toks) (fun _ _ q => Heap.get?_push_of_some _ q) (Nat.le_refl _) (nents_ok nempty)
  have nz : (s.heap.objs.size == sysModules) = false := beq_eq_false_iff_ne.mpr (Ne.symm (Nat.ne_of_lt I.big))
  have h1 := h s.heap.objs.size (.ext (NEnts X.prog X.w s.heap.objs.size [])) hn ⟨⟨[], upd_same, fun x hx => by simp at hx, .nil⟩, nz, Nat.zero_le _⟩
  have hshape : (evalEachOpt [some k] X.env).zip ((evalEach [v] X.env).map fun v => do let x ← v; standAt pos; pure x) = (pairTrees [some k] [v] X.env pos).map fun p => (some p.1, p.2) := by rfl
  show wpAny _ _ _ _ _ _
  rw [arm_eval_Dict, hshape, dictDisplay_pairs (pairTrees [some k] [v] X.env pos) (by intro z; cases z) (by show 1 < 17; decide)]
  refine wpAny_bind (wpAny_standAt (wpAny_bind (wpAny_subDictH (knd := nestedKind X.prog X.w) (Q := fun d s' => wpAny (model X.prog X.w) X.A (pure (Value.ref d)) (EP X pins σ Q) X.xe s') (nroom0 hu) (by show 1 ≤ 15; decide) ?_)))
  refine thn ((pps_cons hk hv pps_nil).run pins _ σ _ (fun ps H2 => match ps with
    | [(y, v)] => ∃ k, KeyAt H2 k y ∧ NDict X.prog X.w H2 s.heap.objs.size [] ∧ ∀ o', NDict X.prog X.w (upd H2 s.heap.objs.size o') s.heap.objs.size [(k, v)] → Q (.ref s.heap.objs.size) (upd H2 s.heap.objs.size o')
    | _ => False) I1 h1) fun ws s2 ⟨ps, H2, I2, rel, q2⟩ => ?_
  cases rel with
  | nil => exact q2.elim
  | @cons pp bb ps' ws' rr rt =>
    cases rt with
    | cons _ _ => exact q2.elim
    | nil =>
      obtain ⟨y, vv⟩ := pp
      obtain ⟨b1, b2⟩ := bb
      obtain ⟨kk, ⟨a, ea, nk, hd⟩, nd, q2⟩ := q2
      obtain ⟨r1, r2⟩ := rr
      have ea' : y = V.ref a := ea
      subst ea'
      have eb : b1 = Value.ref a := r1
      subst eb
      obtain ⟨xs, e, hx, hp, _⟩ := nd.dict I2
      cases hp
      refine ⟨[(kk, a, b2)], ⟨rfl, rfl, ⟨nk.is I2 rfl, hd⟩, True.intro⟩, hx, fun h' tk hm hs => ?_⟩
      obtain ⟨o, es, ep, g1, g2, g3, g4, _, g5⟩ := hm
      have g4' : es.toList = ([(kk, a, b2)] : List (NestedKey × Addr × Value)).map (entryOfKey (nestedKind X.prog X.w)) := g4
      have tkp : ∀ o', TKp H2 (upd H2 s.heap.objs.size o') := fun o' => tkp_upd fun vs z => by rw [e] at z; cases z
      refine wpAny_pure ⟨.ref s.heap.objs.size, upd H2 s.heap.objs.size (.ext (NEnts X.prog X.w s.heap.objs.size [(kk, a, b2)])), I2.write (t' := tk) (x := s.heap.objs.size) (e := s.heap.objs.size) (by rw [e]; exact True.intro) (.inl rfl) (fun b ob hb eb => (hs.2 b hb).trans eb) ⟨o, g1⟩ (nents_ok ⟨o, es, ep, g1, g2, g3, g4', by simp⟩), rfl, q2 _ ?_⟩
      refine ⟨⟨_, upd_same, fun x hx' => ?_, .cons ⟨rfl, r2⟩ .nil⟩, nz, by show 1 ≤ sizeLine; decide⟩
      have e2 : x = (kk, a, b2) := by simpa using hx'
      subst e2
      exact ⟨nk.kp (tkp _), hd⟩
end
end U
namespace U
open PySem PySem.Spec PyProof.Rows L2
section
variable {prog : Program} {w : World} {A : Around} {E : Value → Shared → Prop} {s : Shared} {K : PySem.W.Frag} {x C L f : Addr} {h₀ : Heap} {m : Str → Option Value} {ox : Obj} {od : Option Obj} {b : Value}
open PySem.W Builtin in
theorem objne_K {Q : Value → Shared → Prop} (hu : A.in1.units < cLine) (X : K.In s.heap) (I : InstAt s.heap x ox C od) (hm : mroIn K C (.type "object") = some true) (hs : findIn K (.ref C) "__eq__" = some (some (.ref f))) (hf : isFn K (.ref f) = true)
    (h : wpAny (model prog w) A.in1 (call (.ref f) [.ref x, b]) (fun v s' => ∃ c, v = .bool c ∧ Q (.bool (!c)) s') E s) : wpAny (model prog w) A (call (.builtin "object.__ne__") [.ref x, b]) Q E s := by
  refine wpAny_call (codeAny_call_builtin PySem.F.cmp_object.ne.plain PySem.F.cmpEntry_ne (check_slot (i := "object.__ne__") (owner := "object") (n := "__ne__") (by decide +kernel) (by decide +kernel) (I.type.andThen (looks_mroIn X hm)) (PySem.F.cmpArgs_ne _ _) ?_))
  unfold Builtin.«object.__ne__»
  refine wpAny_bind (m := slotArgs "__ne__" 1 _) (wpAny_pure ?_)
  refine wpAny_bind (m := cRoomFor _ _) (wpAny_cRoomFor hu ?_)
  refine wpAny_bind (m := callSpecialIfBound? (.ref x) (Str.ofString "__eq__") _) (ifBound_K X I hs hf (wpAny_mono h (fun r s' hq => ?_) fun _ _ y => y))
  obtain ⟨c, rfl, q⟩ := hq
  exact wpAny_bind (wpAny_truthy_bool (wpAny_pure q))
open PySem.W in
theorem ne_K {Q : Value → Shared → Prop} (hu : A.units + 1 < cLine) (F : Fr h₀ L s.heap m) (X₀ : K.In h₀) (I : InstAt s.heap x ox C od) (hb : Looks (model prog w) s.heap (typeOf b) (.ref C)) (hm : mroIn K C (.type "object") = some true)
    (hn : findIn K (.ref C) "__ne__" = some (some (.builtin "object.__ne__"))) (hs : findIn K (.ref C) "__eq__" = some (some (.ref f))) (hf : isFn K (.ref f) = true)
    (h : wpAny (model prog w) A.in1 (call (.ref f) [.ref x, b]) (fun v s' => ∃ c, v = .bool c ∧ Q (.bool (!c)) s') E s) : wpAny (model prog w) A (richCompare .NotEq (.ref x) b) Q E s := by
  have X := X₀.keeps F.keep
  have bnd : ∀ {Q' : Option Value → Shared → Prop}, wpAny (model prog w) A (call (.builtin "object.__ne__") [.ref x, b]) (fun v => Q' (some v)) E s → wpAny (model prog w) A (callSpecialIfBound? (.ref x) "__ne__" [b]) Q' E s := fun {Q'} h' => by
    simp only [callSpecialIfBound?, bindSpecialIfBound?]
    refine wpAny_holding (wpAny_bind (wpAny_bind (wpAny_bind (I.type.here ((looks_findIn X hn).here ?_)))))
    refine wpAny_bind (wpAny_askSetting (wpAny_ite ?_))
    have fin : wpAny (model prog w) A (call (.builtin "object.__ne__") ([.ref x] ++ [b]) >>= fun v => pure (some v)) Q' E s := wpAny_bind (wpAny_mono h' (fun v s' h' => wpAny_pure h') fun _ _ h' => h')
    split
    · exact wpAny_bind ((Looks.of_pure (PySem.F.cmp_object.ne.bind (.ref x))).here (wpAny_pure (by exact fin)))
    · exact wpAny_tryCatch (wpAny_bind ((Looks.of_pure (PySem.F.cmp_object.ne.bind (.ref x))).here (wpAny_pure (by exact fin))))
  have one : wpAny (model prog w) A (tryCompare (.ref x) "__ne__" b) (fun r s' => ∃ v, r = some v ∧ Q v s') E s := by
    unfold tryCompare
    refine wpAny_bind (bnd (objne_K (by show A.units + 1 < cLine; exact hu) X I hm hs hf (wpAny_mono h (fun v s' hv => ?_) fun _ _ e => e)))
    obtain ⟨c, rfl, q⟩ := hv
    exact ⟨c, rfl, wpAny_pure ⟨_, rfl, q⟩⟩
  unfold richCompare
  simp only [oneThing_ref]
  refine wpAny_holding (wpAny_bind (wpAny_cRoomFor (Nat.lt_of_succ_lt hu) ?_))
  refine wpAny_bind (I.type.here (wpAny_bind (hb.here ?_)))
  rw [show (Value.ref C != Value.ref C) = false from by simp]
  simp only [Bool.false_eq_true, if_false]
  refine wpAny_bind (wpAny_pure ?_)
  simp only [Bool.false_eq_true, if_false]
  refine wpAny_bind (wpAny_mono one (fun r s' z => ?_) fun _ _ e => e)
  obtain ⟨v, rfl, hq⟩ := z
  exact wpAny_pure hq
end
/-- an own method under a special name -/
structure OwnM (K : PySem.W.Frag) (C : Addr) (n : Str) (f : Addr) : Prop where
  at_ : PySem.W.findIn K (.ref C) n = some (some (.ref f))
  fn : PySem.W.isFn K (.ref f) = true
section
variable {X : Cx} {CX : CXT} {k : Nat} {f C : Addr} {fd : FuncData} {ps : List Str} {sp : Sp} {E : XK}
def rOwnIn (C : Addr) (sp : Sp) (E : XK) : R2 := fun x y H Q => ∃ a dx fs, y = .ref a ∧ H a = some (.ins C dx fs) ∧ sp [.ref a, x] H (fun z H' => ∃ c, z = .bl c ∧ Q (.bl c) H') E
theorem op_ownin (F : FnOk X.prog X.w X.K X.mg X.base CX k f fd ps sp) (hr : Room k X.A) (o : OwnM X.K C "__contains__" f) (hb : Binds X.K fd ps []) (hx : Passes CX X E) : OpR X (compareOp .In) (rOwnIn C sp E) := by
  intro pins s σ H x y v u Q I rx ry h
  obtain ⟨a, dx, fs, rfl, ha, q⟩ := h
  cases ry
  obtain ⟨mA, J, _⟩ := ins_get I.hok ha
  obtain ⟨od, J, _⟩ := J.look
  obtain ⟨m, hF⟩ := I.fr
  have r2 : Vals [V.ref a, x] [Value.ref a, v] := .cons rfl (.cons rx .nil)
  have z := run_fn (Q := fun z H' => ∃ c, z = .bl c ∧ Q (.bl c) H') F hr hb .nil hx I r2 (by exact q)
  refine PySem.W.in_K hF I.ok.mod.kin J o.at_ o.fn (thn z fun r s' ⟨z, H', I', rz, c, ez, q'⟩ => ?_)
  subst ez
  cases rz
  exact wpAny_truthy_bool ⟨.bl c, H', I', rfl, q'⟩
def rOwnEq (C : Addr) (sp : Sp) (E : XK) : R2 := fun x y H Q => ∃ a dx fs b dy gs, x = .ref a ∧ y = .ref b ∧ H a = some (.ins C dx fs) ∧ H b = some (.ins C dy gs) ∧ sp [.ref a, .ref b] H (fun z H' => ∃ c, z = .bl c ∧ Q (.bl c) H') E
theorem op_owneq (F : FnOk X.prog X.w X.K X.mg X.base CX k f fd ps sp) (hr : Room k X.A) (o : OwnM X.K C "__eq__" f) (hb : Binds X.K fd ps []) (hx : Passes CX X E) : OpR X (compareOp .Eq) (rOwnEq C sp E) := by
  intro pins s σ H x y v u Q I rx ry h
  obtain ⟨a, dx, fs, b, dy, gs, rfl, rfl, ha, hb', q⟩ := h
  cases rx
  cases ry
  obtain ⟨mA, J, _⟩ := ins_get I.hok ha
  obtain ⟨mB, J', _⟩ := ins_get I.hok hb'
  obtain ⟨od, J, _⟩ := J.look
  obtain ⟨od', J', _⟩ := J'.look
  obtain ⟨m, hF⟩ := I.fr
  show wpAny _ _ (richCompare .Eq (.ref a) (.ref b)) _ _ _
  have r2 : Vals [V.ref a, V.ref b] [Value.ref a, Value.ref b] := .cons rfl (.cons rfl .nil)
  have z := run_fn (Q := fun z H' => ∃ c, z = .bl c ∧ Q (.bl c) H') F hr hb .nil hx I r2 (by exact q)
  refine PySem.W.cmp_K (op := .Eq) (tb := .ref C) hr.units0 hF I.ok.mod.kin J J'.type (by simp [PySem.W.notFirst]) o.at_ o.fn (thn z fun r s' ⟨z, H', I', rz, c, ez, q'⟩ => ?_)
  subst ez
  cases rz
  exact ⟨.bl c, H', I', rfl, q'⟩
def rOwnNe (C : Addr) (sp : Sp) (E : XK) : R2 := fun x y H Q => ∃ a dx fs b dy gs, x = .ref a ∧ y = .ref b ∧ H a = some (.ins C dx fs) ∧ H b = some (.ins C dy gs) ∧ sp [.ref a, .ref b] H (fun z H' => ∃ c, z = .bl c ∧ Q (.bl (!c)) H') E
theorem op_ownne (F : FnOk X.prog X.w X.K X.mg X.base CX k f fd ps sp) (hr : Room (k + 1) X.A) (o : OwnM X.K C "__eq__" f) (hn : PySem.W.findIn X.K (.ref C) "__ne__" = some (some (.builtin "object.__ne__"))) (hm : PySem.W.mroIn X.K C (.type "object") = some true)
    (hb : Binds X.K fd ps []) (hx : Passes CX X E) : OpR X (compareOp .NotEq) (rOwnNe C sp E) := by
  intro pins s σ H x y v u Q I rx ry h
  obtain ⟨a, dx, fs, b, dy, gs, rfl, rfl, ha, hb', q⟩ := h
  cases rx
  cases ry
  obtain ⟨mA, J, _⟩ := ins_get I.hok ha
  obtain ⟨mB, J', _⟩ := ins_get I.hok hb'
  obtain ⟨od, J, _⟩ := J.look
  obtain ⟨od', J', _⟩ := J'.look
  obtain ⟨m, hF⟩ := I.fr
  show wpAny _ _ (richCompare .NotEq (.ref a) (.ref b)) _ _ _
  refine ne_K (by have := hr.un; omega) hF I.ok.mod.kin J J'.type hm hn o.at_ o.fn ?_
  have e0 : Env0 X.prog X.w X.K X.mg X.base X.A.in1 X.stack s H := I.env0.in1
  have hl := F.len _ _ _ _ q
  have r2 : Vals [V.ref a, V.ref b] [Value.ref a, Value.ref b] := .cons rfl (.cons rfl .nil)
  refine wpAny_call (codeAny_mono (F.run X.A.in1 X.stack s H ⟨[.ref a, .ref b], []⟩ [.ref a, .ref b] [.ref a, .ref b] _ E hr.in1 e0 (by
    have := hb s [.ref a, .ref b] I.kIn (by simpa using hl)
    simpa using this) r2 q) fun r s' hq => ?_)
  cases r with
  | error e => exact hx pins σ H s e s' I hq
  | ok fl =>
    cases fl with
    | ret w =>
      obtain ⟨z, H', I', rz, c, ez, q'⟩ := I.after hq
      subst ez
      cases rz
      exact ⟨c, rfl, .bl (!c), H', I', rfl, q'⟩
    | next => exact False.elim hq
    | brk => exact False.elim hq
    | cont => exact False.elim hq
end
end U
namespace U
open PySem PySem.Spec PyProof.Rows L2
/-- a list (false), a tuple (true) -/
def sq : Bool → List V → HO
  | false, xs => .lst xs
  | true, xs => .tup xs
def SqK (K : PySem.W.Frag) : Bool → Hp → Addr → List V → Prop
  | false => SqL K
  | true => SqT K
theorem SqK.of {K : PySem.W.Frag} {t : Bool} {H : Hp} {a : Addr} {xs : List V} (h : H a = some (sq t xs)) : SqK K t H a xs := by
  cases t with
  | false => exact SqL.of h
  | true => exact SqT.of h
section
variable {K : PySem.W.Frag} {D : Ends} {σ : L2.St} {H : Hp} {Q : VK} {g : TG} {tb : TS} {te : TE} {ta : TA}
theorem i_ixQ {p : Addr} {t : Bool} {xs : List V} {i : Int} {v : V} (h : H p = some (sq t xs)) (e : atI xs i = some v) (q : Q v H) : rIx K (.ref p) (.int i) H Q := by
  cases t with
  | false => exact i_ixL h e q
  | true => exact i_ixT h e q
theorem lenQ {p : Addr} {t : Bool} {xs : List V} (h : H p = some (sq t xs)) : LenV K (.ref p) H xs.length := by
  cases t with
  | false => exact .inl ⟨xs, SqL.of h, rfl⟩
  | true => exact .inr ⟨xs, SqT.of h, rfl⟩
def ForW (J : It) (g : TG) (tb : TS) (D : Ends) (σ : L2.St) (H : Hp) : Prop := ∃ W : Nat → Nat → L2.St → Hp → Prop, (∃ m, W 0 m σ H) ∧ ∀ i m σ H, W i m σ H →
  (J.stop i H ∧ D.nx σ H) ∨ (J.go i H ∧ ∃ N : L2.St → Hp → Prop, (∀ σ' H', N σ' H' → ∃ m', m' < m ∧ W (i + 1) m' σ' H') ∧ ∀ x H', J.yld i H x H' → g x σ H' fun σ2 H2 => tb { D with nx := N, ct := N, bk := D.nx } σ2 H2)
theorem i_for {wi : TI} (q : wi σ H fun J H1 => ForW J g tb D σ H1) : tFor wi g tb D σ H := q
/-- for, by a word on turn, slots and heap; Y: what the turn yields, G: what must stand for it to -/
theorem for_any {J : It} {n : Nat} (Pv : Nat → L2.St → Hp → Prop) (h0 : Pv 0 σ H) (hst : ∀ σ H, Pv n σ H → J.stop n H) (hgo : ∀ i σ H, i < n → Pv i σ H → J.go i H)
    (hs : ∀ i x σ H H', i < n → Pv i σ H → J.yld i H x H' → g x σ H' fun σ2 H2 => tb { D with nx := Pv (i + 1), ct := Pv (i + 1), bk := D.nx } σ2 H2) (hd : ∀ σ H, Pv n σ H → D.nx σ H) : ForW J g tb D σ H := by
  refine ⟨fun i m σ H => m = n - i ∧ i ≤ n ∧ Pv i σ H, ⟨n, by simp, Nat.zero_le _, h0⟩, ?_⟩
  rintro i m σ H ⟨rfl, hi, p⟩
  by_cases hlt : i < n
  · exact .inr ⟨hgo i σ H hlt p, Pv (i + 1), fun σ' H' p' => ⟨n - (i + 1), by omega, rfl, hlt, p'⟩, fun x H' y => hs i x σ H H' hlt p y⟩
  · have e : i = n := by omega
    subst e
    exact .inl ⟨hst σ H p, hd σ H p⟩
def LcW (J : It) (g : TG) (tt : TT) (te : TE) (vs : List Nat) (σ : L2.St) (H1 : Hp) (D : Addr) (Qd : Hp → Prop) : Prop := ∃ W : Nat → Nat → Hp → Prop, (∃ m, W 0 m (upd H1 D (.lst []))) ∧ ∀ i m H, W i m H →
  (J.stop i H ∧ Qd H) ∨ (J.go i H ∧ ∃ Nx : Hp → Prop, (∀ H', Nx H' → ∃ m', m' < m ∧ W (i + 1) m' H') ∧ ∀ x H', J.yld i H x H' → g x (wipe σ vs) H' fun σ2 H2 => wipe σ2 vs = wipe σ vs ∧ tt σ2 H2 fun b H3 =>
    if b = true then te σ2 H3 fun y H4 => ∃ acc, H4 D = some (.lst acc) ∧ acc.length < sizeLine ∧ Nx (upd H4 D (.lst (acc ++ [y]))) else Nx H3)
theorem i_lc {wi : TI} {tt : TT} {vs : List Nat} (q : wi σ H fun J H1 => ∀ D, H1 D = none → LcW J g tt te vs σ H1 D (Q (.ref D))) : tLc wi g tt te vs σ H Q := q
/-- over anything that goes n turns: what has come into being at D (the list, so long), what stands besides -/
theorem lc_any {J : It} {n : Nat} {tt : TT} {vs : List Nat} {D : Addr} {Qd : Hp → Prop} (Pv : Nat → Hp → Prop) (h0 : Pv 0 (upd H D (.lst [])))
    (hst : ∀ H, Pv n H → J.stop n H) (hgo : ∀ i H, i < n → Pv i H → J.go i H)
    (hs : ∀ i x H H', i < n → Pv i H → J.yld i H x H' → g x (wipe σ vs) H' fun σ2 H2 => wipe σ2 vs = wipe σ vs ∧ tt σ2 H2 fun b H3 =>
      if b = true then te σ2 H3 fun y H4 => ∃ acc, H4 D = some (.lst acc) ∧ acc.length < sizeLine ∧ Pv (i + 1) (upd H4 D (.lst (acc ++ [y]))) else Pv (i + 1) H3)
    (hd : ∀ H, Pv n H → Qd H) : LcW J g tt te vs σ H D Qd := by
  refine ⟨fun i m H => m = n - i ∧ i ≤ n ∧ Pv i H, ⟨n, by simp, Nat.zero_le _, h0⟩, ?_⟩
  rintro i m H ⟨rfl, hi, p⟩
  by_cases hlt : i < n
  · exact .inr ⟨hgo i H hlt p, Pv (i + 1), fun H' p' => ⟨n - (i + 1), by omega, rfl, hlt, p'⟩, fun x H' y => hs i x H H' hlt p y⟩
  · have e : i = n := by omega
    subst e
    exact .inl ⟨hst H p, hd H p⟩
def ISeq (K : PySem.W.Frag) (R : It → Hp → Prop) (x : V) (H1 : Hp) : Prop := ∃ a, x = .ref a ∧ (((∃ xs, SqL K H1 a xs) ∧ R (Itl K a) H1) ∨ ((∃ xs, SqT K H1 a xs) ∧ R (Itt K a) H1))
theorem i_iSeq {tl : TE} {R : It → Hp → Prop} (q : tl σ H (ISeq K R)) : iSeq K tl σ H R := q
theorem i_iRng1 {R : It → Hp → Prop} (q : ta σ H fun vs H1 => ∃ j : Int, vs = [.int j] ∧ -(2 ^ 62) ≤ j ∧ j < 2 ^ 62 ∧ R (Itr 0 j.toNat) H1) : iRng1 ta σ H R := q
theorem i_iRng2 {R : It → Hp → Prop} (q : ta σ H fun vs H1 => ∃ i j : Int, vs = [.int i, .int j] ∧ (-(2 ^ 62) ≤ i ∧ i < 2 ^ 62 ∧ -(2 ^ 62) ≤ j ∧ j < 2 ^ 62) ∧ R (Itr i (j - i).toNat) H1) : iRng2 ta σ H R := q
theorem i_iStr {tl : TE} {R : It → Hp → Prop} (q : tl σ H fun v H1 => ∃ x, v = .str x ∧ R (Its x) H1) : iStr tl σ H R := q
theorem i_iEnumS {R : It → Hp → Prop} (q : ta σ H fun vs H1 => ∃ z, vs = [.str z] ∧ R (IteS z) H1) : iEnumS ta σ H R := q
theorem i_iEnumR {R : It → Hp → Prop} (q : ta σ H fun vs H1 => ∃ a, vs = [.ref a] ∧ (((∃ xs, SqL K H1 a xs) ∧ R (Ite K a) H1) ∨ ((∃ xs, SqT K H1 a xs) ∧ R (IteT K a) H1))) : iEnumR K ta σ H R := q
theorem ex_rng1 {j : Nat} {R : Nat → Prop} (h : j < 2 ^ 62) (r : R j) : ∃ i : Int, [V.int (j : Int)] = [.int i] ∧ -(2 ^ 62) ≤ i ∧ i < 2 ^ 62 ∧ R i.toNat := ⟨j, rfl, by omega, by omega, by rw [Int.toNat_natCast]; exact r⟩
theorem ex_rng1i {j : Int} {R : Nat → Prop} (h0 : 0 ≤ j) (h : j < 2 ^ 62) (r : ∀ n : Nat, (n : Int) = j → R n) : ∃ i : Int, [V.int j] = [.int i] ∧ -(2 ^ 62) ≤ i ∧ i < 2 ^ 62 ∧ R i.toNat := ⟨j, rfl, by omega, by omega, r _ (by omega)⟩
theorem ex_str {z : Str} {P : Str → Prop} (h : P z) : ∃ x, V.str z = .str x ∧ P x := ⟨z, rfl, h⟩
theorem ex_str1 {z : Str} {P : Str → Prop} (h : P z) : ∃ x, [V.str z] = [.str x] ∧ P x := ⟨z, rfl, h⟩
section
variable {a : Addr} {t : Bool} {xs : List V}
theorem seq_for (h : H a = some (sq t xs)) (Pv : Nat → L2.St → Hp → Prop) (h0 : Pv 0 σ H) (hl : ∀ i σ H, i ≤ xs.length → Pv i σ H → H a = some (sq t xs))
    (hs : ∀ i x σ H, xs[i]? = some x → Pv i σ H → g x σ H fun σ2 H2 => tb { D with nx := Pv (i + 1), ct := Pv (i + 1), bk := D.nx } σ2 H2) (hd : ∀ σ H, Pv xs.length σ H → D.nx σ H) : ISeq K (fun J H1 => ForW J g tb D σ H1) (.ref a) H := by
  refine ⟨a, rfl, ?_⟩
  cases t with
  | false => exact .inl ⟨⟨xs, SqL.of h⟩, for_list (K := K) (a := a) (xs := xs) Pv h0 (fun i σ H hi p => SqL.of (hl i σ H hi p)) hs hd⟩
  | true => exact .inr ⟨⟨xs, SqT.of h⟩, for_tup (K := K) (a := a) (xs := xs) Pv h0 (fun i σ H hi p => SqT.of (hl i σ H hi p)) hs hd⟩
theorem seq_lc {tt : TT} {vs : List Nat} {Qd : Addr → Hp → Prop} (h : H a = some (sq t xs)) (r : ∀ D, H D = none → ∃ Pv : Nat → Hp → Prop, Pv 0 (upd H D (.lst [])) ∧ (∀ i H, i ≤ xs.length → Pv i H → H a = some (sq t xs)) ∧
    (∀ i x H, xs[i]? = some x → Pv i H → g x (wipe σ vs) H fun σ2 H2 => wipe σ2 vs = wipe σ vs ∧ tt σ2 H2 fun b H3 =>
      if b = true then te σ2 H3 fun y H4 => ∃ acc, H4 D = some (.lst acc) ∧ acc.length < sizeLine ∧ Pv (i + 1) (upd H4 D (.lst (acc ++ [y]))) else Pv (i + 1) H3) ∧
    ∀ H, Pv xs.length H → Qd D H) : ISeq K (fun J H1 => ∀ D, H1 D = none → LcW J g tt te vs σ H1 D (Qd D)) (.ref a) H := by
  refine ⟨a, rfl, ?_⟩
  cases t with
  | false =>
    refine .inl ⟨⟨xs, SqL.of h⟩, fun D hD => ?_⟩
    obtain ⟨Pv, h0, hl, hs, hd⟩ := r D hD
    exact lc_list (K := K) (a := a) (xs := xs) Pv h0 (fun i H hi p => SqL.of (hl i H hi p)) hs hd
  | true =>
    refine .inr ⟨⟨xs, SqT.of h⟩, fun D hD => ?_⟩
    obtain ⟨Pv, h0, hl, hs, hd⟩ := r D hD
    exact lc_tup (K := K) (a := a) (xs := xs) Pv h0 (fun i H hi p => SqT.of (hl i H hi p)) hs hd
theorem rng_for {lo : Int} {n : Nat} (Pv : Nat → L2.St → Hp → Prop) (h0 : Pv 0 σ H)
    (hs : ∀ i σ H, i < n → Pv i σ H → g (.int (lo + i)) σ H fun σ2 H2 => tb { D with nx := Pv (i + 1), ct := Pv (i + 1), bk := D.nx } σ2 H2) (hd : ∀ σ H, Pv n σ H → D.nx σ H) : ForW (Itr lo n) g tb D σ H := for_range Pv h0 hs hd
theorem rng0_for {n : Nat} (Pv : Nat → L2.St → Hp → Prop) (h0 : Pv 0 σ H)
    (hs : ∀ i σ H, i < n → Pv i σ H → g (.int (i : Int)) σ H fun σ2 H2 => tb { D with nx := Pv (i + 1), ct := Pv (i + 1), bk := D.nx } σ2 H2) (hd : ∀ σ H, Pv n σ H → D.nx σ H) : ForW (Itr 0 n) g tb D σ H :=
  for_range Pv h0 (fun i σ H hi p => by rw [Int.zero_add]; exact hs i σ H hi p) hd
theorem rng0_lc {n : Nat} {tt : TT} {vs : List Nat} {D : Addr} {Qd : Hp → Prop} (Pv : Nat → Hp → Prop) (h0 : Pv 0 (upd H D (.lst [])))
    (hs : ∀ i H, i < n → Pv i H → g (.int (i : Int)) (wipe σ vs) H fun σ2 H2 => wipe σ2 vs = wipe σ vs ∧ tt σ2 H2 fun b H3 =>
      if b = true then te σ2 H3 fun y H4 => ∃ acc, H4 D = some (.lst acc) ∧ acc.length < sizeLine ∧ Pv (i + 1) (upd H4 D (.lst (acc ++ [y]))) else Pv (i + 1) H3) (hd : ∀ H, Pv n H → Qd H) : LcW (Itr 0 n) g tt te vs σ H D Qd :=
  lc_range (lo := 0) Pv h0 (fun i H hi p => by rw [Int.zero_add]; exact hs i H hi p) hd
theorem str_for {z : Str} (Pv : Nat → L2.St → Hp → Prop) (h0 : Pv 0 σ H)
    (hs : ∀ i c σ H, z.cps[i]? = some c → Pv i σ H → g (.str ⟨#[c]⟩) σ H fun σ2 H2 => tb { D with nx := Pv (i + 1), ct := Pv (i + 1), bk := D.nx } σ2 H2) (hd : ∀ σ H, Pv z.cps.size σ H → D.nx σ H) : ForW (Its z) g tb D σ H := by
  refine for_any (n := z.cps.size) Pv h0 (fun _ _ _ => Nat.le_refl _) (fun _ _ _ h _ => h) (fun i x σ H H' hi p y => ?_) hd
  obtain ⟨rfl, c, hc, rfl⟩ := y
  exact hs i c σ _ hc p
theorem str_lc {z : Str} {tt : TT} {vs : List Nat} {D : Addr} {Qd : Hp → Prop} (Pv : Nat → Hp → Prop) (h0 : Pv 0 (upd H D (.lst [])))
    (hs : ∀ i c H, z.cps[i]? = some c → Pv i H → g (.str ⟨#[c]⟩) (wipe σ vs) H fun σ2 H2 => wipe σ2 vs = wipe σ vs ∧ tt σ2 H2 fun b H3 =>
      if b = true then te σ2 H3 fun y H4 => ∃ acc, H4 D = some (.lst acc) ∧ acc.length < sizeLine ∧ Pv (i + 1) (upd H4 D (.lst (acc ++ [y]))) else Pv (i + 1) H3) (hd : ∀ H, Pv z.cps.size H → Qd H) : LcW (Its z) g tt te vs σ H D Qd := by
  refine lc_any (n := z.cps.size) Pv h0 (fun _ _ => Nat.le_refl _) (fun _ _ h _ => h) (fun i x H H' hi p y => ?_) hd
  obtain ⟨rfl, c, hc, rfl⟩ := y
  exact hs i c _ hc p
theorem enumS_for {z : Str} (Pv : Nat → L2.St → Hp → Prop) (h0 : Pv 0 σ H)
    (hs : ∀ i c T σ H, z.cps[i]? = some c → Pv i σ H → H T = none → g (.ref T) σ (upd H T (.tup [.int (i : Nat), .str ⟨#[c]⟩])) fun σ2 H2 => tb { D with nx := Pv (i + 1), ct := Pv (i + 1), bk := D.nx } σ2 H2) (hd : ∀ σ H, Pv z.cps.size σ H → D.nx σ H) : ForW (IteS z) g tb D σ H := by
  refine for_any (n := z.cps.size) Pv h0 (fun _ _ _ => rfl) (fun _ _ _ h _ => h) (fun i x σ H H' hi p y => ?_) hd
  obtain ⟨T, c, rfl, hT, rfl, hc⟩ := y
  exact hs i c T σ _ hc p hT
theorem enumR_for (h : H a = some (sq t xs)) (Pv : Nat → L2.St → Hp → Prop) (h0 : Pv 0 σ H) (hl : ∀ i σ H, i ≤ xs.length → Pv i σ H → H a = some (sq t xs))
    (hs : ∀ i x T σ H, xs[i]? = some x → Pv i σ H → H T = none → g (.ref T) σ (upd H T (.tup [.int (i : Nat), x])) fun σ2 H2 => tb { D with nx := Pv (i + 1), ct := Pv (i + 1), bk := D.nx } σ2 H2) (hd : ∀ σ H, Pv xs.length σ H → D.nx σ H) :
    ∃ a', [V.ref a] = [.ref a'] ∧ (((∃ xs, SqL K H a' xs) ∧ ForW (Ite K a') g tb D σ H) ∨ ((∃ xs, SqT K H a' xs) ∧ ForW (IteT K a') g tb D σ H)) := by
  refine ⟨a, rfl, ?_⟩
  cases t with
  | false =>
    refine .inl ⟨⟨xs, SqL.of h⟩, for_any (n := xs.length) Pv h0 (fun σ H p => ⟨xs, SqL.of (hl _ σ H (Nat.le_refl _) p), Nat.le_refl _⟩) (fun i σ H hi p => ⟨xs, xs[i], SqL.of (hl _ σ H (Nat.le_of_lt hi) p), by simp [hi]⟩) (fun i x σ H H' hi p y => ?_) hd⟩
    obtain ⟨T, z, rfl, hT, rfl, hz⟩ := y
    exact hs i z T σ _ (hz xs (SqL.of (hl _ σ H (Nat.le_of_lt hi) p))) p hT
  | true =>
    refine .inr ⟨⟨xs, SqT.of h⟩, for_any (n := xs.length) Pv h0 (fun σ H p => ⟨xs, SqT.of (hl _ σ H (Nat.le_refl _) p), rfl⟩) (fun i σ H hi p => ⟨xs, xs[i], SqT.of (hl _ σ H (Nat.le_of_lt hi) p), by simp [hi]⟩) (fun i x σ H H' hi p y => ?_) hd⟩
    obtain ⟨T, z, rfl, hT, rfl, hz⟩ := y
    exact hs i z T σ _ (hz xs (SqT.of (hl _ σ H (Nat.le_of_lt hi) p))) p hT
end
theorem i_chain {r r' : R2} {tb' tc : TE} (q : te σ H fun x H1 => tb' σ H1 fun y H2 => r x y H2 fun z H3 => ∃ k, z = .bl k ∧ (if k = true then tc σ H3 fun w' H4 => r' y w' H4 Q else Q (.bl false) H3)) : tChain r r' te tb' tc σ H Q := q
theorem i_m1 {r : V → List V → Hp → VK → Prop} {to te : TE} (q : to σ H fun x H1 => (∃ a, x = .str a) ∧ te σ H1 fun y H2 => r x [y] H2 Q) : tM1 r to te σ H Q := q
theorem i_bms {T : String} {r : L2.St → V → List V → Hp → VK → Prop} {to : TE} {t : TA} (q : to σ H fun x H1 => tyV K T x H1 ∧ t σ H1 fun xs H2 => r σ x xs H2 Q) : tBMS K T r to t σ H Q := q
/-- isinstance(x, a built-in class) -/
theorem i_isi {x : V} {a b : String} {r : Bool} (ty : TyX K H x (.type a)) (h : kitB a b = some r) (q : Q (.bl r) H) : rIsi K [x, .ty b] H Q := ⟨x, .ty b, .type a, .type b, r, rfl, .ty b, ty, kit_ty h, q⟩
theorem ty_sq {p : Addr} {t : Bool} {xs : List V} (h : H p = some (sq t xs)) : TyX K H (.ref p) (.type (if t then "tuple" else "list")) := by
  cases t with
  | false => exact .base (.lst h)
  | true => exact .base (.tup h)
end
section
variable {K : PySem.W.Frag} {H : Hp} {Q : VK} {A B : Prop}
theorem iteNF (h : A) : if (!false) = true then A else B := by rw [if_pos (by rfl)]; exact h
theorem iteNT (h : B) : if (!true) = true then A else B := by rw [if_neg (by decide)]; exact h
theorem i_isiTL {p tp : Addr} {t : Bool} {xs : List V} (h : H p = some (sq t xs)) (ht : H tp = some (.tup [.ty "tuple", .ty "list"])) (q : Q (.bl true) H) : rIsiT K [.ref p, .ref tp] H Q := by
  refine ⟨.ref p, tp, [.ty "tuple", .ty "list"], .type (if t then "tuple" else "list"), [.type "tuple", .type "list"], true, rfl, ht, .cons (.ty _) (.cons (.ty _) .nil), ty_sq h, ?_, q⟩
  cases t with
  | false => exact kitAny_cons (b := false) (kit_ty (by decide +kernel)) (fun _ => kitAny_cons (b := true) (kit_ty (by decide +kernel)) (fun z => by cases z) fun _ => rfl) fun z => by cases z
  | true => exact kitAny_cons (b := true) (kit_ty (by decide +kernel)) (fun z => by cases z) fun _ => rfl
theorem i_all {a : Addr} {bs : List Bool} {r : Bool} (h : H a = some (.lst (bs.map V.bl))) (e : bs.all id = r) (q : Q (.bl r) H) : rAll K [.ref a] H Q := ⟨a, bs, rfl, SqL.of h, by rw [e]; exact q⟩
theorem i_any {a : Addr} {bs : List Bool} {r : Bool} (h : H a = some (.lst (bs.map V.bl))) (e : bs.any id = r) (q : Q (.bl r) H) : rAny K [.ref a] H Q := ⟨a, bs, rfl, SqL.of h, by rw [e]; exact q⟩
theorem all_rep (n : Nat) : (List.replicate n true).all id = true := by simp
theorem any_rep (n : Nat) : (List.replicate n false).any id = false := by simp
theorem map_rep (n : Nat) (b : Bool) : List.replicate n (V.bl b) = (List.replicate n b).map V.bl := by simp
theorem rep_snoc {α : Type} (n : Nat) (x : α) : List.replicate n x ++ [x] = List.replicate (n + 1) x := by
  rw [List.replicate_succ']
end
abbrev vn (n : Nat) : V := .int (n : Int)
/-- an alphabet's codes -/
structure AlOk (al : List Nat) : Prop where
  pos : 1 ≤ al.length
  le : al.length ≤ 3
  small : ∀ c ∈ al, 97 ≤ c ∧ c ≤ 122
  inc : al.Pairwise (· < ·)
theorem small_mem {c : Nat} (h : 97 ≤ c ∧ c ≤ 122) : c ∈ ("abcdefghijklmnopqrstuvwxyz" : Str).cps.toList := by
  have z : ∀ d : Nat, d < 123 → 97 ≤ d → d ∈ ("abcdefghijklmnopqrstuvwxyz" : Str).cps.toList := by decide +kernel
  exact z c (by omega) h.1
def Ints (T : AS) (H : Hp) (p : Addr) (ns : List Nat) : Prop := ¬ T p ∧ ∃ t, H p = some (sq t (ns.map vn))
def IntsT (T : AS) (H : Hp) (p : Addr) (ns : List Nat) : Prop := ¬ T p ∧ H p = some (.tup (ns.map vn))
theorem IntsT.ints {T : AS} {H : Hp} {p : Addr} {ns : List Nat} (h : IntsT T H p ns) : Ints T H p ns := ⟨h.1, true, h.2⟩
def Rows (T : AS) (H : Hp) (p : Addr) (rs : List (List Nat)) : Prop := ¬ T p ∧ ∃ t as, H p = some (sq t (as.map V.ref)) ∧ Paired (fun a r => Ints T H a r) as rs
def RowsT (T : AS) (H : Hp) (p : Addr) (rs : List (List Nat)) : Prop := ¬ T p ∧ ∃ as, H p = some (.tup (as.map V.ref)) ∧ Paired (fun a r => IntsT T H a r) as rs
theorem RowsT.rows {T : AS} {H : Hp} {p : Addr} {rs : List (List Nat)} (h : RowsT T H p rs) : Rows T H p rs := let ⟨h1, as, h2, h3⟩ := h; ⟨h1, true, as, h2, Paired.mapP h3 fun _ _ z => z.ints⟩
section
variable {T T' : AS} {H H' : Hp} {p : Addr} {ns : List Nat} {rs : List (List Nat)}
theorem Ints.kp (h : Ints T H p ns) (k : Kp T' H H') (i : ∀ b, T' b → T b) : Ints T H' p ns := ⟨h.1, let ⟨t, e⟩ := h.2; ⟨t, k _ _ (fun z => h.1 (i _ z)) e⟩⟩
theorem IntsT.kp (h : IntsT T H p ns) (k : Kp T' H H') (i : ∀ b, T' b → T b) : IntsT T H' p ns := ⟨h.1, k _ _ (fun z => h.1 (i _ z)) h.2⟩
theorem Rows.kp (h : Rows T H p rs) (k : Kp T' H H') (i : ∀ b, T' b → T b) : Rows T H' p rs := let ⟨h1, t, as, h2, h3⟩ := h; ⟨h1, t, as, k _ _ (fun z => h1 (i _ z)) h2, Paired.mapP h3 fun _ _ z => z.kp k i⟩
theorem RowsT.kp (h : RowsT T H p rs) (k : Kp T' H H') (i : ∀ b, T' b → T b) : RowsT T H' p rs := let ⟨h1, as, h2, h3⟩ := h; ⟨h1, as, k _ _ (fun z => h1 (i _ z)) h2, Paired.mapP h3 fun _ _ z => z.kp k i⟩
theorem Ints.weak (h : Ints T H p ns) (i : ∀ b, T' b → T b) : Ints T' H p ns := ⟨fun z => h.1 (i _ z), h.2⟩
theorem IntsT.weak (h : IntsT T H p ns) (i : ∀ b, T' b → T b) : IntsT T' H p ns := ⟨fun z => h.1 (i _ z), h.2⟩
theorem Rows.weak (h : Rows T H p rs) (i : ∀ b, T' b → T b) : Rows T' H p rs := let ⟨h1, t, as, h2, h3⟩ := h; ⟨fun z => h1 (i _ z), t, as, h2, Paired.mapP h3 fun _ _ z => z.weak i⟩
theorem RowsT.weak (h : RowsT T H p rs) (i : ∀ b, T' b → T b) : RowsT T' H p rs := let ⟨h1, as, h2, h3⟩ := h; ⟨fun z => h1 (i _ z), as, h2, Paired.mapP h3 fun _ _ z => z.weak i⟩
theorem map_at {α : Type} {f : α → V} {xs : List α} {i : Nat} {x : α} (h : xs[i]? = some x) : (xs.map f)[i]? = some (f x) := by
  rw [List.getElem?_map, h]
  rfl
theorem at_map {α : Type} {f : α → V} {xs : List α} {i : Nat} {v : V} (h : (xs.map f)[i]? = some v) : ∃ x, xs[i]? = some x ∧ v = f x := by
  rw [List.getElem?_map] at h
  cases e : xs[i]? with
  | none => rw [e] at h; cases h
  | some x => rw [e] at h; exact ⟨x, rfl, (Option.some.inj h).symm⟩
theorem Paired.at1 {α β : Type} {F : α → β → Prop} : ∀ {xs : List α} {ys : List β} {i : Nat} {y : β}, Paired F xs ys → ys[i]? = some y → ∃ x, xs[i]? = some x ∧ F x y
  | _, _, _, _, .nil, h => by simp at h
  | _, _, 0, _, .cons r _, h => ⟨_, rfl, by simp at h; subst h; exact r⟩
  | _, _, i + 1, y, .cons _ t, h => by
    obtain ⟨x, h1, h2⟩ := Paired.at1 (i := i) (y := y) t (by simpa using h)
    exact ⟨x, by simpa using h1, h2⟩
theorem Paired.at0 {α β : Type} {F : α → β → Prop} : ∀ {xs : List α} {ys : List β} {i : Nat} {x : α}, Paired F xs ys → xs[i]? = some x → ∃ y, ys[i]? = some y ∧ F x y
  | _, _, _, _, .nil, h => by simp at h
  | _, _, 0, _, .cons r _, h => ⟨_, rfl, by simp at h; subst h; exact r⟩
  | _, _, i + 1, x, .cons _ t, h => by
    obtain ⟨y, h1, h2⟩ := Paired.at0 (i := i) (x := x) t (by simpa using h)
    exact ⟨y, by simpa using h1, h2⟩
theorem Paired.snoc {α β : Type} {F : α → β → Prop} : ∀ {xs : List α} {ys : List β} {x : α} {y : β}, Paired F xs ys → F x y → Paired F (xs ++ [x]) (ys ++ [y])
  | _, _, _, _, .nil, h => .cons h .nil
  | _, _, _, _, .cons r t, h => .cons r (Paired.snoc t h)
end
section
variable {X : Cx}
theorem ixK (K : PySem.W.Frag) (h : X.K = K) : IxR X (rIx K) := by subst h; exact ix_seq
def rLen (K : PySem.W.Frag) : List V → Hp → VK → Prop := fun xs H Q => ∃ x n, xs = [x] ∧ LenV K x H n ∧ Q (.int (n : Nat)) H
theorem lenK (K : PySem.W.Frag) (h : X.K = K) : CallR X (.builtin "len") (rLen K) := by subst h; exact call_len
theorem isiK (K : PySem.W.Frag) (h : X.K = K) : CallR X (.builtin "isinstance") (rIsi K) := by subst h; exact call_isi
theorem isiTK (K : PySem.W.Frag) (h : X.K = K) : CallR X (.builtin "isinstance") (rIsiT K) := by subst h; exact call_isiT
theorem inK (K : PySem.W.Frag) (h : X.K = K) : OpR X (compareOp .In) (rIn K false) := by subst h; exact op_in_seq
theorem notInK (K : PySem.W.Frag) (h : X.K = K) : OpR X (compareOp .NotIn) (rIn K true) := by subst h; exact op_notIn_seq
theorem eqDK (K : PySem.W.Frag) (h : X.K = K) (hu : X.A.units + 64 < cLine) : OpR X (compareOp .Eq) (rEqD K) := by subst h; exact op_eqD hu
theorem neDK (K : PySem.W.Frag) (h : X.K = K) (hu : X.A.units + 64 < cLine) : OpR X (compareOp .NotEq) (rNeD K) := by subst h; exact op_neD hu
def rListOf (K : PySem.W.Frag) : List V → Hp → VK → Prop := fun xs H Q => ∃ p ys, xs = [.ref p] ∧ (SqL K H p ys ∨ SqT K H p ys) ∧ ∀ l, H l = none → Q (.ref l) (upd H l (.lst ys))
theorem listK (K : PySem.W.Frag) (h : X.K = K) : CallR X (.type "list") (rListOf K) := by subst h; exact call_list_of
def rTupleOf (K : PySem.W.Frag) : List V → Hp → VK → Prop := fun xs H Q => ∃ p ys, xs = [.ref p] ∧ ((SqL K H p ys ∧ ∀ l, H l = none → Q (.ref l) (upd H l (.tup ys))) ∨ (SqT K H p ys ∧ Q (.ref p) H))
theorem tupleK (K : PySem.W.Frag) (h : X.K = K) : CallR X (.type "tuple") (rTupleOf K) := by subst h; exact call_tuple_of
theorem allK (K : PySem.W.Frag) (h : X.K = K) (hc : X.calm = true) : CallR X (.builtin "all") (rAll K) := by subst h; exact cr_all hc
theorem anyK (K : PySem.W.Frag) (h : X.K = K) (hc : X.calm = true) : CallR X (.builtin "any") (rAny K) := by subst h; exact cr_any hc
theorem slTK (K : PySem.W.Frag) (h : X.K = K) : SlR X (rSlA K) := by subst h; exact sl_tupA
theorem slLK (K : PySem.W.Frag) (h : X.K = K) : SlR X (rSlL K) := by subst h; exact sl_list
theorem catAK (K : PySem.W.Frag) (h : X.K = K) : OpR X (binaryOp .Add) (rCatA K) := by subst h; exact op_catA
theorem fldK (K : PySem.W.Frag) (h : X.K = K) {e : Expr} {te : TE} {f : Str} {pos : Pos} (he : PE X e te) (hb : attributeBase e f X.env (eval e X.env) = eval e X.env) : PE X (.Attribute e f pos) (tFld K te f) := by subst h; exact pe_fld he hb
theorem seqK (K : PySem.W.Frag) (h : X.K = K) {tg l : Expr} {tl : TE} (hl : PE X l tl) : PI X tg l (iSeq K tl) := by subst h; exact pi_seq hl
theorem enumRK (K : PySem.W.Frag) (h : X.K = K) {e : Expr} {ta : TA} {p pos tpos : Pos} {elts : List Expr} {kk : Nat} (hg : Gl X "enumerate") (hm : X.mg "enumerate" = none) (ha : PA X [e] ta) (hs : starEach [e] X.env = [(false, eval e X.env)] := by rfl) :
    PI X (.Tuple elts kk tpos) (.Call (.Name "enumerate" p) [e] [] pos) (iEnumR K ta) := by subst h; exact pi_enumR hg hm ha hs
theorem gTupK (K : PySem.W.Frag) (h : X.K = K) {es : List Expr} {k : Nat} {t : TGs} {pos : Pos} (hc : X.calm = true) (hg : PGs X es t) {n : Nat} (hn : PG X (.Tuple es k pos) (gTup X.K n t)) : PG X (.Tuple es k pos) (gTup K n t) := by subst h; exact hn
theorem bmK (K : PySem.W.Frag) (h : X.K = K) {o e : Expr} {es : List Expr} {to : TE} {t : TA} {name : Str} {apos cpos : Pos} {T : String} {r : V → List V → Hp → VK → Prop} (hh : PE X (.Call (.Attribute o name apos) (e :: es) [] cpos) (tBM X.K T r to t)) : PE X (.Call (.Attribute o name apos) (e :: es) [] cpos) (tBM K T r to t) := by subst h; exact hh
def rJoin (K : PySem.W.Frag) : V → List V → Hp → VK → Prop := fun x xs H Q => ∃ a p, ∃ ys : List Str, x = .str a ∧ xs = [.ref p] ∧ (SqL K H p (ys.map V.str) ∨ SqT K H p (ys.map V.str)) ∧ (ys.map (·.length)).sum + ys.length * a.length ≤ 16777216 ∧ Q (.str (Txt.join a ys)) H
theorem joinK (K : PySem.W.Frag) (h : X.K = K) {o e : Expr} {to te : TE} {apos pos : Pos} (ho : PE X o to) (he : PE X e te) (hs : starEach [e] X.env = [(false, eval e X.env)] := by rfl) (hbase : attributeBase o "join" X.env (eval o X.env) = eval o X.env := by rfl) (hline : (apos.endLine == pos.line) = true := by rfl) :
    PE X (.Call (.Attribute o "join" apos) [e] [] pos) (tM1 (rJoin K) to te) := by subst h; exact pe_join ho he hs hbase hline
def rInt1 : List V → Hp → VK → Prop := fun xs H Q => (∃ i, xs = [.int i] ∧ Q (.int i) H) ∨ ∃ k, xs = [.bl k] ∧ Q (.int (if k then 1 else 0)) H
theorem int1 : CallR X (.type "int") rInt1 := call_int1
def rLenN (P : Program) (w : World) : List V → Hp → VK → Prop := fun xs H Q => ∃ d kvs, xs = [V.ref d] ∧ NDict P w H d kvs ∧ Q (.int (kvs.length : Nat)) H
theorem lenNK (P : Program) (w : World) (hp : X.prog = P) (hw : X.w = w) : CallR X (.builtin "len") (rLenN P w) := by subst hp hw; exact call_lenN
def rLenD : List V → Hp → VK → Prop := fun xs H Q => ∃ a kvs, xs = [V.ref a] ∧ H a = some (.dK kvs) ∧ Q (.int (kvs.length : Nat)) H
theorem lenDK : CallR X (.builtin "len") rLenD := call_lenD
end
section
variable {K : PySem.W.Frag} {P : Program} {w : World} {H : Hp} {Q : VK} {σ : L2.St}
theorem i_lenQ {p : Addr} {t : Bool} {xs : List V} (h : H p = some (sq t xs)) (q : Q (.int (xs.length : Nat)) H) : rLen K [.ref p] H Q := ⟨_, _, rfl, lenQ h, q⟩
theorem i_lenL {p : Addr} {xs : List V} (h : H p = some (.lst xs)) (q : Q (.int (xs.length : Nat)) H) : rLen K [.ref p] H Q := ⟨_, _, rfl, lenQ (t := false) h, q⟩
theorem i_lenT {p : Addr} {xs : List V} (h : H p = some (.tup xs)) (q : Q (.int (xs.length : Nat)) H) : rLen K [.ref p] H Q := ⟨_, _, rfl, lenQ (t := true) h, q⟩
theorem i_lenS {z : Str} (h : z.length ≤ sizeLine) (q : Q (.int (z.length : Nat)) H) : rLen K [.str z] H Q := ⟨_, z.length, rfl, ⟨h, rfl⟩, q⟩
theorem i_int1 {i : Int} (q : Q (.int i) H) : rInt1 [.int i] H Q := .inl ⟨i, rfl, q⟩
theorem i_lenN {d : Addr} {kvs : List (NestedKey × V)} (n : NDict P w H d kvs) (q : Q (.int (kvs.length : Nat)) H) : rLenN P w [.ref d] H Q := ⟨d, kvs, rfl, n, q⟩
theorem i_lenD {d : Addr} {kvs : List (Key × V)} (n : H d = some (.dK kvs)) (q : Q (.int (kvs.length : Nat)) H) : rLenD [.ref d] H Q := ⟨d, kvs, rfl, n, q⟩
theorem i_listOf {p : Addr} {t : Bool} {ys : List V} (h : H p = some (sq t ys)) (q : ∀ l, H l = none → Q (.ref l) (upd H l (.lst ys))) : rListOf K [.ref p] H Q := by
  cases t with
  | false => exact ⟨p, ys, rfl, .inl (SqL.of h), q⟩
  | true => exact ⟨p, ys, rfl, .inr (SqT.of h), q⟩
/-- tuple(x): a new tuple, or x itself where x is one -/
theorem i_tupleOf {p : Addr} {t : Bool} {ys : List V} (h : H p = some (sq t ys)) (q : ∀ l H', H' l = some (.tup ys) → Same H H' → (H l = none ∨ (l = p ∧ t = true)) → Q (.ref l) H') : rTupleOf K [.ref p] H Q := by
  cases t with
  | false => exact ⟨p, ys, rfl, .inl ⟨SqL.of h, fun l hl => q l _ upd_same (same_laid hl) (.inl hl)⟩⟩
  | true => exact ⟨p, ys, rfl, .inr ⟨SqT.of h, q p H h (Same.refl H) (.inr ⟨rfl, rfl⟩)⟩⟩
theorem i_tupleOfL {p : Addr} {ys : List V} (h : H p = some (.lst ys)) (q : ∀ l, H l = none → Q (.ref l) (upd H l (.tup ys))) : rTupleOf K [.ref p] H Q := ⟨p, ys, rfl, .inl ⟨SqL.of h, q⟩⟩
theorem iteIN {i : Int} {A B : Prop} (h : B) : if decide (V.int i = V.non) = true then A else B := by
  rw [decide_eq_false (by intro z; cases z), if_neg Bool.false_ne_true]
  exact h
end
theorem i_yes {σ : L2.St} {H : Hp} {QB : Bool → Hp → Prop} (q : QB true H) : tYes σ H QB := q
theorem i_wipe {σ2 w : L2.St} {vs : List Nat} {R : Prop} (e : wipe σ2 vs = w) (r : R) : wipe σ2 vs = w ∧ R := ⟨e, r⟩
theorem upd_lst {H : Hp} {D : Addr} {xs ys zs : List V} (e : ys = zs) : upd (upd H D (.lst xs)) D (.lst ys) = upd H D (.lst zs) := by rw [upd_upd, e]
theorem S_at {al : List Nat} {i : Nat} {c : Nat} (h : al[i]? = some c) : atI (SX.S al).cps.toList (i : Int) = some c := atI_nat (by simpa [SX.S] using h)
theorem szl {n : Nat} (h : n ≤ 16777216) : n ≤ sizeLine := by rw [sizeLine_eq]; exact h
theorem szlt {n : Nat} (h : n < 16777216) : n < sizeLine := by rw [sizeLine_eq]; exact h
theorem ite_t {c : Bool} {A B : Prop} (e : c = true) (h : A) : if c = true then A else B := by subst e; exact iteT h
theorem ite_f {c : Bool} {A B : Prop} (e : c = false) (h : B) : if c = true then A else B := by subst e; exact iteF h
theorem ite_dt {c : Prop} [Decidable c] {A B : Prop} (e : c) (h : A) : if decide c = true then A else B := ite_t (decide_eq_true e) h
theorem ite_df {c : Prop} [Decidable c] {A B : Prop} (e : ¬ c) (h : B) : if decide c = true then A else B := ite_f (decide_eq_false e) h
theorem ite_ndt {c : Prop} [Decidable c] {A B : Prop} (e : ¬ c) (h : A) : if (!decide c) = true then A else B := ite_t (by rw [decide_eq_false e]; rfl) h
theorem ite_ndf {c : Prop} [Decidable c] {A B : Prop} (e : c) (h : B) : if (!decide c) = true then A else B := ite_f (by rw [decide_eq_true e]; rfl) h
/-- the end of a turn that leaves all but the new list -/
theorem lc_turn {H : Hp} {D : Addr} {xs ys : List V} {y : V} {Pv : Hp → Prop} (h : xs.length < 16777216) (e : xs ++ [y] = ys) (q : Pv (upd H D (.lst ys))) :
    ∃ acc, (upd H D (.lst xs)) D = some (.lst acc) ∧ acc.length < sizeLine ∧ Pv (upd (upd H D (.lst xs)) D (.lst (acc ++ [y]))) := ⟨xs, upd_same, szlt h, by rw [upd_upd, e]; exact q⟩
end U
namespace U
open PySem PySem.Spec PyProof.Rows L2
section
variable {α : Type} [DecidableEq α]
def addN (o : List α) (t : α) : List α := if t ∈ o then o else o ++ [t]
def addsN (o ts : List α) : List α := ts.foldl addN o
/-- each one once, by first places -/
def dd (l : List α) : List α := addsN [] l
theorem addsN_nil (o : List α) : addsN o [] = o := rfl
theorem addsN_snoc (o ts : List α) (t : α) : addsN o (ts ++ [t]) = addN (addsN o ts) t := by simp [addsN]
theorem addsN_app (o ts us : List α) : addsN o (ts ++ us) = addsN (addsN o ts) us := by simp [addsN]
theorem dd_snoc (l : List α) (t : α) : dd (l ++ [t]) = addN (dd l) t := addsN_snoc [] l t
theorem mem_addN {o : List α} {t x : α} : x ∈ addN o t ↔ x ∈ o ∨ x = t := by
  unfold addN
  split
  · exact ⟨.inl, fun h => h.elim id fun e => by rw [e]; assumption⟩
  · simp
theorem mem_addsN {o ts : List α} {x : α} : x ∈ addsN o ts ↔ x ∈ o ∨ x ∈ ts := by
  induction ts generalizing o with
  | nil => simp [addsN]
  | cons t ts ih =>
    show x ∈ addsN (addN o t) ts ↔ _
    rw [ih, mem_addN]
    simp [or_assoc]
theorem mem_dd {l : List α} {x : α} : x ∈ dd l ↔ x ∈ l := by
  unfold dd
  rw [mem_addsN]
  simp
theorem nd_addN {o : List α} {t : α} (h : o.Nodup) : (addN o t).Nodup := by
  unfold addN
  split
  · exact h
  · rename_i hn
    rw [List.nodup_append]
    exact ⟨h, by simp, fun a ha b hb e => hn (by rw [← List.mem_singleton.mp hb, ← e]; exact ha)⟩
theorem nd_addsN {o ts : List α} (h : o.Nodup) : (addsN o ts).Nodup := by
  induction ts generalizing o with
  | nil => exact h
  | cons t ts ih => exact ih (nd_addN h)
theorem nd_dd (l : List α) : (dd l).Nodup := nd_addsN List.nodup_nil
theorem addN_pre (o : List α) (t : α) : ∃ m, addN o t = o ++ m := by
  unfold addN
  split
  · exact ⟨[], by simp⟩
  · exact ⟨_, rfl⟩
theorem addsN_pre (o ts : List α) : ∃ m, addsN o ts = o ++ m := by
  induction ts generalizing o with
  | nil => exact ⟨[], by simp [addsN]⟩
  | cons t ts ih =>
    obtain ⟨m1, e1⟩ := addN_pre o t
    obtain ⟨m2, e2⟩ := ih (addN o t)
    exact ⟨m1 ++ m2, by show addsN (addN o t) ts = _; rw [e2, e1, List.append_assoc]⟩
theorem len_addN (o : List α) (t : α) : (addN o t).length ≤ o.length + 1 := by
  unfold addN
  split
  · omega
  · simp
theorem len_addsN (o ts : List α) : (addsN o ts).length ≤ o.length + ts.length := by
  induction ts generalizing o with
  | nil => simp [addsN]
  | cons t ts ih =>
    have h1 := ih (addN o t)
    have h2 := len_addN o t
    show (addsN (addN o t) ts).length ≤ _
    rw [List.length_cons]
    omega
theorem len_dd (l : List α) : (dd l).length ≤ l.length := by
  have := len_addsN [] l
  simpa [dd] using this
/-- the number of x by first places -/
def pl (l : List α) (x : α) : Nat := l.idxOf x
theorem pl_snoc_in {l : List α} {t x : α} (h : x ∈ l) : pl (l ++ [t]) x = pl l x := by
  unfold pl
  rw [List.idxOf_append, if_pos h]
theorem pl_snoc_new {l : List α} {t : α} (h : t ∉ l) : pl (l ++ [t]) t = l.length := by
  unfold pl
  rw [List.idxOf_append, if_neg h]
  simp
theorem pl_addN {l : List α} {t x : α} (h : x ∈ l) : pl (addN l t) x = pl l x := by
  unfold addN
  split
  · rfl
  · exact pl_snoc_in h
theorem pl_lt {l : List α} {x : α} (h : x ∈ l) : pl l x < l.length := List.idxOf_lt_length_of_mem h
theorem pl_at {l : List α} {x : α} (h : x ∈ l) : l[pl l x]? = some x := by
  unfold pl
  rw [List.getElem?_eq_getElem (List.idxOf_lt_length_of_mem h), List.getElem_idxOf]
end
abbrev Rws := List (List Nat)
def row (rs : Rws) (p : Nat) : List Nat := rs.getD p []
/-- where the letter a leads from p -/
def stp (rs : Rws) (p a : Nat) : Nat := (row rs p).getD a 0
def run (rs : Rws) (p : Nat) (w : List Nat) : Nat := w.foldl (stp rs) p
structure WFB (m : Nat) (rs : Rws) : Prop where
  pos : 0 < rs.length
  le : rs.length ≤ 4000
  m3 : m ≤ 3
  wid : ∀ r ∈ rs, r.length = m
  lt : ∀ r ∈ rs, ∀ t ∈ r, t < rs.length
structure GOK (n : Nat) (gd : List Nat) : Prop where
  inc : gd.Pairwise (· < ·)
  lt : ∀ x ∈ gd, x < n
theorem row_at {rs : Rws} {p : Nat} (h : p < rs.length) : rs[p]? = some (row rs p) := by
  unfold row
  rw [List.getD_eq_getElem?_getD, List.getElem?_eq_getElem h]
  rfl
theorem WFB.row_mem {m : Nat} {rs : Rws} (_ : WFB m rs) {p : Nat} (h : p < rs.length) : row rs p ∈ rs := by
  have := row_at h
  exact List.mem_of_getElem? this
theorem WFB.row_len {m : Nat} {rs : Rws} (w : WFB m rs) {p : Nat} (h : p < rs.length) : (row rs p).length = m := w.wid _ (w.row_mem h)
theorem WFB.row_lt {m : Nat} {rs : Rws} (w : WFB m rs) {p t : Nat} (h : p < rs.length) (ht : t ∈ row rs p) : t < rs.length := w.lt _ (w.row_mem h) t ht
theorem WFB.stp_at {m : Nat} {rs : Rws} (w : WFB m rs) {p a : Nat} (h : p < rs.length) (ha : a < m) : (row rs p)[a]? = some (stp rs p a) := by
  unfold stp
  rw [List.getD_eq_getElem?_getD, List.getElem?_eq_getElem (by rw [w.row_len h]; exact ha)]
  rfl
theorem WFB.stp_lt {m : Nat} {rs : Rws} (w : WFB m rs) {p a : Nat} (h : p < rs.length) (ha : a < m) : stp rs p a < rs.length := w.row_lt h (List.mem_of_getElem? (w.stp_at h ha))
theorem WFB.run_lt {m : Nat} {rs : Rws} (w : WFB m rs) : ∀ {l : List Nat} {p : Nat}, p < rs.length → (∀ a ∈ l, a < m) → run rs p l < rs.length
  | [], _, h, _ => h
  | a :: l, p, h, hl => by
    show run rs (stp rs p a) l < _
    exact w.run_lt (w.stp_lt h (hl a (List.mem_cons_self ..))) fun b hb => hl b (List.mem_cons_of_mem _ hb)
theorem run_snoc (rs : Rws) (p : Nat) (l : List Nat) (a : Nat) : run rs p (l ++ [a]) = stp rs (run rs p l) a := by simp [run]
theorem run_app (rs : Rws) (p : Nat) (l k : List Nat) : run rs p (l ++ k) = run rs (run rs p l) k := by simp [run]
/-- the rooms found, k of them gone through -/
def scanAt (rs : Rws) : Nat → List Nat
  | 0 => [0]
  | k + 1 => addsN (scanAt rs k) (row rs ((scanAt rs k).getD k 0))
theorem scan_nd (rs : Rws) : ∀ k, (scanAt rs k).Nodup
  | 0 => by simp [scanAt]
  | k + 1 => nd_addsN (scan_nd rs k)
theorem WFB.scan_lt {m : Nat} {rs : Rws} (w : WFB m rs) : ∀ k, ∀ x ∈ scanAt rs k, x < rs.length
  | 0, x, h => by
    rw [List.mem_singleton.mp h]
    exact w.pos
  | k + 1, x, h => by
    rcases mem_addsN.mp h with h | h
    · exact w.scan_lt k x h
    · refine w.row_lt ?_ h
      rw [List.getD_eq_getElem?_getD]
      cases e : (scanAt rs k)[k]? with
      | none => exact w.pos
      | some y => exact w.scan_lt k y (List.mem_of_getElem? e)
theorem nodup_sub {α : Type} [DecidableEq α] : ∀ {l k : List α}, l.Nodup → (∀ x ∈ l, x ∈ k) → l.length ≤ k.length
  | [], _, _, _ => by simp
  | a :: l, k, h, hl => by
    obtain ⟨h1, h2⟩ := List.nodup_cons.mp h
    have ha := hl a (List.mem_cons_self ..)
    have z := nodup_sub (k := k.erase a) h2 fun x hx => (List.mem_erase_of_ne (fun (e : x = a) => h1 (by rw [← e]; exact hx))).mpr (hl x (List.mem_cons_of_mem _ hx))
    rw [List.length_erase_of_mem ha] at z
    have hp := List.length_pos_of_mem ha
    rw [List.length_cons]
    omega
theorem nodup_le {l : List Nat} {n : Nat} (h : l.Nodup) (hl : ∀ x ∈ l, x < n) : l.length ≤ n := by
  have h1 := nodup_sub (k := List.range n) h fun x hx => List.mem_range.mpr (hl x hx)
  simpa using h1
theorem rev_ind {α : Type} {P : List α → Prop} (h0 : P []) (hs : ∀ l x, P l → P (l ++ [x])) (l : List α) : P l := by
  have z : ∀ k : List α, P k.reverse := fun k => by
    induction k with
    | nil => exact h0
    | cons a k ih =>
      rw [List.reverse_cons]
      exact hs _ _ ih
  have := z l.reverse
  rwa [List.reverse_reverse] at this
theorem WFB.scan_len {m : Nat} {rs : Rws} (w : WFB m rs) (k : Nat) : (scanAt rs k).length ≤ rs.length := nodup_le (scan_nd rs k) (w.scan_lt k)
theorem scan0 (rs : Rws) : ∀ k, (scanAt rs k)[0]? = some 0
  | 0 => rfl
  | k + 1 => by
    obtain ⟨m, e⟩ := addsN_pre (scanAt rs k) (row rs ((scanAt rs k).getD k 0))
    show (addsN _ _)[0]? = _
    rw [e]
    have h := scan0 rs k
    obtain ⟨hlt, _⟩ := List.getElem?_eq_some_iff.mp h
    rw [List.getElem?_append_left hlt]
    exact h
theorem scan_pos (rs : Rws) (k : Nat) : 0 < (scanAt rs k).length := (List.getElem?_eq_some_iff.mp (scan0 rs k)).1
/-- a machine of at most 60 rooms -/
structure WF (m : Nat) (rs : Rws) : Prop where
  b : WFB m rs
  le : rs.length ≤ 60
instance {m : Nat} {rs : Rws} : Coe (WF m rs) (WFB m rs) := ⟨WF.b⟩
section
variable {m : Nat} {rs : Rws} (w : WF m rs)
include w
theorem WF.pos : 0 < rs.length := w.b.pos
theorem WF.m3 : m ≤ 3 := w.b.m3
theorem WF.wid : ∀ r ∈ rs, r.length = m := w.b.wid
theorem WF.lt : ∀ r ∈ rs, ∀ t ∈ r, t < rs.length := w.b.lt
theorem WF.row_mem {p : Nat} (h : p < rs.length) : row rs p ∈ rs := w.b.row_mem h
theorem WF.row_len {p : Nat} (h : p < rs.length) : (row rs p).length = m := w.b.row_len h
theorem WF.row_lt {p t : Nat} (h : p < rs.length) (ht : t ∈ row rs p) : t < rs.length := w.b.row_lt h ht
theorem WF.stp_at {p a : Nat} (h : p < rs.length) (ha : a < m) : (row rs p)[a]? = some (stp rs p a) := w.b.stp_at h ha
theorem WF.stp_lt {p a : Nat} (h : p < rs.length) (ha : a < m) : stp rs p a < rs.length := w.b.stp_lt h ha
theorem WF.run_lt {l : List Nat} {p : Nat} (h : p < rs.length) (hl : ∀ a ∈ l, a < m) : run rs p l < rs.length := w.b.run_lt h hl
theorem WF.scan_lt (k : Nat) : ∀ x ∈ scanAt rs k, x < rs.length := w.b.scan_lt k
theorem WF.scan_len (k : Nat) : (scanAt rs k).length ≤ rs.length := w.b.scan_len k
end
theorem WF.of {m : Nat} {rs : Rws} (pos : 0 < rs.length) (le : rs.length ≤ 60) (m3 : m ≤ 3) (wid : ∀ r ∈ rs, r.length = m) (lt : ∀ r ∈ rs, ∀ t ∈ r, t < rs.length) : WF m rs := ⟨⟨pos, by omega, m3, wid, lt⟩, le⟩
def num {α : Type} [DecidableEq α] (rooms : List Nat) (sig : Nat → α) (r : Nat) : Nat := pl (dd (rooms.map sig)) (sig r)
def cnt {α : Type} [DecidableEq α] (rooms : List Nat) (sig : Nat → α) : Nat := (dd (rooms.map sig)).length
def nkB (b : Bool) : NestedKey := .num (if b = true then 1 else 0)
def nkN (n : Nat) : NestedKey := .num (n : Int)
mutual
/-- what a room shows in round k -/
def sigA (rs : Rws) (mk : Nat → Bool) (rooms : List Nat) : Nat → Nat → NestedKey
  | 0, r => .tup [nkB (mk r)]
  | k + 1, r => .tup [nkN (clsA rs mk rooms k r), .tup ((row rs r).map fun t => nkN (clsA rs mk rooms k t))]
/-- its class behind round k -/
def clsA (rs : Rws) (mk : Nat → Bool) (rooms : List Nat) : Nat → Nat → Nat
  | 0, r => pl (dd (rooms.map fun r => NestedKey.tup [nkB (mk r)])) (.tup [nkB (mk r)])
  | k + 1, r => pl (dd (rooms.map fun r => NestedKey.tup [nkN (clsA rs mk rooms k r), .tup ((row rs r).map fun t => nkN (clsA rs mk rooms k t))])) (.tup [nkN (clsA rs mk rooms k r), .tup ((row rs r).map fun t => nkN (clsA rs mk rooms k t))])
end
theorem clsA_eq (rs : Rws) (mk : Nat → Bool) (rooms : List Nat) (k : Nat) (r : Nat) : clsA rs mk rooms k r = num rooms (sigA rs mk rooms k) r := by
  cases k with
  | zero => simp only [clsA, num, sigA]; rfl
  | succ k => simp only [clsA, num, sigA]; rfl
/-- one room of each class, the first -/
def headsOf (rooms : List Nat) (g : Nat → Nat) : List Nat := rooms.foldl (fun hs r => if g r ∈ hs.map g then hs else hs ++ [r]) []
theorem headsOf_snoc (rooms : List Nat) (g : Nat → Nat) (r : Nat) : headsOf (rooms ++ [r]) g = if g r ∈ (headsOf rooms g).map g then headsOf rooms g else headsOf rooms g ++ [r] := by simp [headsOf]
theorem heads_map (g : Nat → Nat) (rooms : List Nat) : (headsOf rooms g).map g = dd (rooms.map g) := by
  induction rooms using rev_ind with
  | h0 => rfl
  | hs l r ih =>
    rw [headsOf_snoc, List.map_append, List.map_singleton, dd_snoc, ← ih]
    unfold addN
    split
    · rfl
    · rw [List.map_append]
      rfl
theorem heads_mem {g : Nat → Nat} {rooms : List Nat} {x : Nat} (h : x ∈ headsOf rooms g) : x ∈ rooms := by
  induction rooms using rev_ind with
  | h0 => cases h
  | hs l r ih =>
    rw [headsOf_snoc] at h
    split at h
    · exact List.mem_append_left _ (ih h)
    · rcases List.mem_append.mp h with h | h
      · exact List.mem_append_left _ (ih h)
      · exact List.mem_append_right _ h
theorem heads_len (g : Nat → Nat) (rooms : List Nat) : (headsOf rooms g).length = (dd (rooms.map g)).length := by rw [← heads_map, List.length_map]
/-- the least table by classes g -/
def lrows (rs : Rws) (rooms : List Nat) (g : Nat → Nat) : Rws := (headsOf rooms g).map fun h => (row rs h).map (num rooms g)
def lmarks (mk : Nat → Bool) (rooms : List Nat) (g : Nat → Nat) : List Bool := (headsOf rooms g).map mk
theorem take_at {α : Type} {l : List α} {j : Nat} {u : α} (h : l[j]? = some u) : l.take (j + 1) = l.take j ++ [u] := by
  rw [List.take_add_one, h]
  rfl
/-- the word w in letters of al -/
def Word (al : List Nat) (w z : List Nat) : Prop := (∀ a ∈ w, a < al.length) ∧ z = w.map fun a => al.getD a 0
def mapK (l : List Nat) (f : Nat → V) : List (Key × V) := l.map fun (n : Nat) => ((Sum.inl (n : Int) : Key), f n)
theorem valV_mapK (f : Nat → V) (n : Nat) : ∀ l : List Nat, valV (mapK l f) (Sum.inl (n : Int)) = if n ∈ l then some (f n) else none
  | [] => rfl
  | a :: l => by
    by_cases e : a = n
    · subst e
      rw [if_pos (List.mem_cons_self ..)]
      exact valV_pos (p := ((Sum.inl (a : Int) : Key), f a)) rfl
    · have z : ¬ ((Sum.inl (a : Int) : Key), f a).1 = Sum.inl (n : Int) := fun h => e (by
        have := Sum.inl.inj h
        omega)
      show valV (((Sum.inl (a : Int) : Key), f a) :: mapK l f) _ = _
      rw [valV_neg z, valV_mapK f n l]
      have e' : n ∈ a :: l ↔ n ∈ l := by
        rw [List.mem_cons]
        exact ⟨fun h => h.elim (fun z => (e z.symm).elim) id, .inr⟩
      simp only [e']
theorem valV_mapK_in {f : Nat → V} {n : Nat} {l : List Nat} (h : n ∈ l) : valV (mapK l f) (Sum.inl (n : Int)) = some (f n) := by rw [valV_mapK, if_pos h]
theorem valV_mapK_no {f : Nat → V} {n : Nat} {l : List Nat} (h : n ∉ l) : valV (mapK l f) (Sum.inl (n : Int)) = none := by rw [valV_mapK, if_neg h]
theorem putK_mapK {f : Nat → V} {n : Nat} {l : List Nat} {v : V} (h : n ∉ l) (e : v = f n) : putK (mapK l f) (Sum.inl (n : Int)) v = mapK (l ++ [n]) f := by
  subst e
  rw [putK_new _ (valV_mapK_no h)]
  simp [mapK]
theorem mapK_congr {f g : Nat → V} {l : List Nat} (h : ∀ x ∈ l, f x = g x) : mapK l f = mapK l g := by
  unfold mapK
  exact List.map_congr_left fun x hx => by rw [h x hx]
theorem mapK_len (l : List Nat) (f : Nat → V) : (mapK l f).length = l.length := by simp [mapK]
def mapN (l : List NestedKey) (f : NestedKey → V) : List (NestedKey × V) := l.map fun k => (k, f k)
theorem lookN_mapN (f : NestedKey → V) (n : NestedKey) : ∀ l : List NestedKey, lookN (mapN l f) n = if n ∈ l then some (f n) else none
  | [] => rfl
  | a :: l => by
    show lookN ((a, f a) :: mapN l f) n = _
    unfold lookN
    rw [List.find?_cons]
    by_cases e : a = n
    · subst e
      simp
    · have e' : n ∈ a :: l ↔ n ∈ l := by
        rw [List.mem_cons]
        exact ⟨fun h => h.elim (fun z => (e z.symm).elim) id, .inr⟩
      have ih := lookN_mapN f n l
      unfold lookN at ih
      simp only [e, e', decide_false]
      exact ih
theorem lookN_in {f : NestedKey → V} {n : NestedKey} {l : List NestedKey} (h : n ∈ l) : lookN (mapN l f) n = some (f n) := by rw [lookN_mapN, if_pos h]
theorem lookN_no {f : NestedKey → V} {n : NestedKey} {l : List NestedKey} (h : n ∉ l) : lookN (mapN l f) n = none := by rw [lookN_mapN, if_neg h]
theorem putN_mapN {f : NestedKey → V} {n : NestedKey} {l : List NestedKey} {v : V} (h : n ∉ l) (e : v = f n) : putN (mapN l f) n v = mapN (l ++ [n]) f := by
  subst e
  unfold putN
  rw [lookN_no h, if_neg (by decide)]
  simp [mapN]
theorem mapN_congr {f g : NestedKey → V} {l : List NestedKey} (h : ∀ x ∈ l, f x = g x) : mapN l f = mapN l g := by
  unfold mapN
  exact List.map_congr_left fun x hx => by rw [h x hx]
theorem mapN_len (l : List NestedKey) (f : NestedKey → V) : (mapN l f).length = l.length := by simp [mapN]
/-- numbers by first places -/
def numD {α : Type} [DecidableEq α] (l : List α) (x : α) : V := vn (pl l x)
end U
namespace U
open PySem PySem.Spec PyProof.Rows L2 C8
section
variable {K : PySem.W.Frag} {P : Program} {w : World} {D : Ends} {σ : L2.St} {H : Hp} {Q : VK} {td ty tv te tk : TE}
def RDGet (x y : V) (H : Hp) (Q : VK) : Prop := ∃ a v, x = .ref a ∧ DGet H a y (some v) ∧ Q v H
theorem i_dget (q : td σ H fun x H1 => ty σ H1 fun y H2 => RDGet x y H2 Q) : tDGet td ty σ H Q := q
theorem r_dget {a : Addr} {kvs : List (Key × V)} {i : Int} {v : V} (h : H a = some (.dK kvs)) (e : valV kvs (Sum.inl i) = some v) (q : Q v H) : RDGet (.ref a) (.int i) H Q := ⟨a, v, rfl, by rw [← e]; exact DGet.k (k := Sum.inl i) h, q⟩
def RDIn (x y : V) (H : Hp) (Q : VK) : Prop := ∃ a o, x = .ref a ∧ DGet H a y o ∧ Q (.bl o.isSome) H
theorem i_din (q : ty σ H fun y H1 => td σ H1 fun x H2 => RDIn x y H2 Q) : tDIn ty td σ H Q := q
theorem r_din {a : Addr} {kvs : List (Key × V)} {i : Int} (h : H a = some (.dK kvs)) (q : Q (.bl (valV kvs (Sum.inl i)).isSome) H) : RDIn (.ref a) (.int i) H Q := ⟨a, _, rfl, DGet.k (k := Sum.inl i) h, q⟩
def RDNotIn (x y : V) (H : Hp) (Q : VK) : Prop := ∃ a o, x = .ref a ∧ DGet H a y o ∧ Q (.bl (!o.isSome)) H
theorem i_dnotin (q : ty σ H fun y H1 => td σ H1 fun x H2 => RDNotIn x y H2 Q) : tDNotIn ty td σ H Q := q
theorem r_dnotin {a : Addr} {kvs : List (Key × V)} {i : Int} (h : H a = some (.dK kvs)) (q : Q (.bl (!(valV kvs (Sum.inl i)).isSome)) H) : RDNotIn (.ref a) (.int i) H Q := ⟨a, _, rfl, DGet.k (k := Sum.inl i) h, q⟩
def RDPut (x y v : V) (H : Hp) (Q : Hp → Prop) : Prop := ∃ a H4, x = .ref a ∧ DPut H a y v H4 ∧ Q H4
theorem i_dput (q : tv σ H fun v H1 => td σ H1 fun x H2 => ty σ H2 fun y H3 => RDPut x y v H3 fun H4 => D.nx σ H4) : sDPut td ty tv D σ H := q
theorem r_dput {a : Addr} {kvs : List (Key × V)} {i : Int} {v : V} {Q : Hp → Prop} (h : H a = some (.dK kvs)) (hl : kvs.length < 16777216) (q : Q (upd H a (.dK (putK kvs (Sum.inl i) v)))) : RDPut (.ref a) (.int i) v H Q := ⟨a, _, rfl, DPut.k (k := Sum.inl i) h (szlt hl), q⟩
theorem i_dnewK (q : ∀ p, H p = none → Q (.ref p) (upd H p (.dK []))) : tDNewK σ H Q := q
/-- {k: v}, k a whole number, v no object of its own -/
theorem i_disp1 {i : Int} {v : V} (q : ∀ p, H p = none → Q (.ref p) (upd H p (.dK [(Sum.inl i, v)]))) : tDisp [(tC (.int i), tC v)] σ H Q := fun p hp => ⟨upd_same, [(Sum.inl i, v)], rfl, by show 1 ≤ 15; decide, by
  rw [upd_upd]
  exact q p hp⟩
def RNGet (P : Program) (w : World) (x y : V) (H : Hp) (Q : VK) : Prop := ∃ d k kvs v, x = .ref d ∧ NDict P w H d kvs ∧ KeyAt H k y ∧ lookN kvs k = some v ∧ Q v H
theorem i_nget (q : td σ H fun x H1 => ty σ H1 fun y H2 => RNGet P w x y H2 Q) : tNGet P w td ty σ H Q := q
def RNIn (P : Program) (w : World) (x y : V) (H : Hp) (Q : VK) : Prop := ∃ d k kvs, x = .ref d ∧ NDict P w H d kvs ∧ KeyAt H k y ∧ Q (.bl (lookN kvs k).isSome) H
theorem i_nin (q : ty σ H fun y H1 => td σ H1 fun x H2 => RNIn P w x y H2 Q) : tNIn P w ty td σ H Q := q
def RNNotIn (P : Program) (w : World) (x y : V) (H : Hp) (Q : VK) : Prop := ∃ d k kvs, x = .ref d ∧ NDict P w H d kvs ∧ KeyAt H k y ∧ Q (.bl (!(lookN kvs k).isSome)) H
theorem i_nnotin (q : ty σ H fun y H1 => td σ H1 fun x H2 => RNNotIn P w x y H2 Q) : tNNotIn P w ty td σ H Q := q
def RNPut (P : Program) (w : World) (x y v : V) (H : Hp) (Q : Hp → Prop) : Prop := ∃ d k kvs, x = .ref d ∧ NDict P w H d kvs ∧ KeyAt H k y ∧ kvs.length < sizeLine ∧ ∀ o, NDict P w (upd H d o) d (putN kvs k v) → Q (upd H d o)
theorem i_nput (q : tv σ H fun v H1 => td σ H1 fun x H2 => ty σ H2 fun y H3 => RNPut P w x y v H3 fun H4 => D.nx σ H4) : sNPut P w td ty tv D σ H := q
theorem i_dnewN (q : ∀ p o, H p = none → NDict P w (upd H p o) p [] → Q (.ref p) (upd H p o)) : tNNew P w σ H Q := q
end
section
variable {K : PySem.W.Frag} {D : Ends} {σ : L2.St} {H : Hp} {ta tv : TE} {f : Str}
def RFld (K : PySem.W.Frag) (f : Str) (x y : V) (H : Hp) (R : Hp → Prop) : Prop := ∃ a C dx fs, x = .ref a ∧ H a = some (.ins C dx fs) ∧ Cls K C ∧ NoAttr K C f ∧ fs.length < 1000 ∧ R (upd H a (.ins C dx (putF f y fs)))
theorem i_sfld (q : tv σ H fun y H1 => ta σ H1 fun x H2 => RFld K f x y H2 fun H3 => D.nx σ H3) : sFld K ta tv f D σ H := q
theorem r_fld {a C dx : Addr} {fs : List (Str × V)} {y : V} {R : Hp → Prop} (h : H a = some (.ins C dx fs)) (c : Cls K C) (n : NoAttr K C f) (hl : fs.length < 1000) (q : R (upd H a (.ins C dx (putF f y fs)))) : RFld K f (.ref a) y H R := ⟨a, C, dx, fs, rfl, h, c, n, hl, q⟩
theorem Kp.at {H : Hp} {p : Addr} {o : HO} : Kp (fun b => b = p) H (upd H p o) := Kp.wrote rfl
end
section
variable {D : Ends} {σ : L2.St} {H : Hp} {c : TT} {tb : TS}
def WhT (n : Nat) (Pv : Nat → L2.St → Hp → Prop) (tb : TS) (D : Ends) (k : Nat) (σ : L2.St) (H : Hp) : Prop := ∃ N : L2.St → Hp → Prop, (∀ σ' H', N σ' H' → ∃ m', m' < n - k ∧ ∃ j, m' = n - j ∧ Pv j σ' H') ∧ tb { D with nx := N, ct := N, bk := D.nx } σ H
theorem whT {n k : Nat} {Pv : Nat → L2.St → Hp → Prop} (h : k < n) (q : tb { D with nx := Pv (k + 1), ct := Pv (k + 1), bk := D.nx } σ H) : WhT n Pv tb D k σ H := ⟨Pv (k + 1), fun σ' H' p => ⟨n - (k + 1), by omega, k + 1, rfl, p⟩, q⟩
theorem i_while (n : Nat) (Pv : Nat → L2.St → Hp → Prop) (h0 : Pv 0 σ H) (hs : ∀ k σ H, Pv k σ H → c σ H fun b H1 => if b = true then WhT n Pv tb D k σ H1 else D.nx σ H1) : tWhile c tb D σ H := by
  refine ⟨fun m σ H => ∃ k, m = n - k ∧ Pv k σ H, ⟨_, 0, rfl, h0⟩, ?_⟩
  rintro m σ H ⟨k, rfl, p⟩
  exact hs k σ H p
end
theorem upd_comm {H : Hp} {a b : Addr} {x y : HO} (h : a ≠ b) : upd (upd H a x) b y = upd (upd H b y) a x := by
  funext c
  by_cases e : c = a
  · subst e
    rw [upd_ne h, upd_same, upd_same]
  · by_cases e' : c = b
    · subst e'
      rw [upd_same, upd_ne e, upd_same]
    · rw [upd_ne e', upd_ne e, upd_ne e, upd_ne e']
theorem upd_swap {H : Hp} {a b : Addr} {x y z : HO} (h : a ≠ b) : upd (upd (upd H a x) b y) a z = upd (upd H a z) b y := by
  rw [upd_comm (H := upd H a x) h.symm, upd_upd]
theorem upd2 {H : Hp} {a b : Addr} {x y z u : HO} (h : a ≠ b) : upd (upd (upd (upd H a x) b y) a z) b u = upd (upd H a z) b u := by
  rw [upd_swap h, upd_upd]
section
variable {T : AS} {H : Hp} {p : Addr} {rs : Rws} {m : Nat}
theorem Rows.at {r : Nat} (h : Rows T H p rs) (hr : r < rs.length) : ∃ t vs a, H p = some (sq t vs) ∧ vs.length = rs.length ∧ atI vs (r : Int) = some (.ref a) ∧ Ints T H a (row rs r) := by
  obtain ⟨_, t, as, h2, h3⟩ := h
  obtain ⟨a, ha, hi⟩ := Paired.at1 h3 (row_at hr)
  exact ⟨t, as.map .ref, a, h2, by rw [List.length_map, h3.length], atI_nat (map_at ha), hi⟩
theorem RowsT.at {r : Nat} (h : RowsT T H p rs) (hr : r < rs.length) : ∃ vs a, H p = some (.tup vs) ∧ vs.length = rs.length ∧ atI vs (r : Int) = some (.ref a) ∧ IntsT T H a (row rs r) := by
  obtain ⟨_, as, h2, h3⟩ := h
  obtain ⟨a, ha, hi⟩ := Paired.at1 h3 (row_at hr)
  exact ⟨as.map .ref, a, h2, by rw [List.length_map, h3.length], atI_nat (map_at ha), hi⟩
theorem Rows.len (h : Rows T H p rs) : ∃ t vs, H p = some (sq t vs) ∧ vs.length = rs.length := by
  obtain ⟨_, t, as, h2, h3⟩ := h
  exact ⟨t, as.map .ref, h2, by rw [List.length_map, h3.length]⟩
theorem RowsT.len (h : RowsT T H p rs) : ∃ vs, H p = some (.tup vs) ∧ vs.length = rs.length := by
  obtain ⟨_, as, h2, h3⟩ := h
  exact ⟨as.map .ref, h2, by rw [List.length_map, h3.length]⟩
theorem vn_at {ns : List Nat} {i n : Nat} (h : ns[i]? = some n) : atI (ns.map vn) (i : Int) = some (.int (n : Int)) := atI_nat (map_at h)
/-- what is laid anew is not among T -/
def TO (T : AS) (H : Hp) : Prop := ∀ b, T b → Old H b
theorem TO.new (t : TO T H) {p : Addr} (h : H p = none) : ¬ T p := fun z => Old.none h (t p z)
theorem TO.same {H' : Hp} (t : TO T H) (s : Same H H') : TO T H' := fun b hb => let ⟨o, e⟩ := t b hb; ⟨o, s _ _ e⟩
theorem Srcs.to {S : AS} (s : Srcs S H) : TO S H := fun _ h => s.old h
theorem Ints.same {H' : Hp} {ns : List Nat} (h : Ints T H p ns) (s : Same H H') : Ints T H' p ns := h.kp (T' := fun _ => False) (.of_same s) (fun _ z => z.elim)
theorem IntsT.same {H' : Hp} {ns : List Nat} (h : IntsT T H p ns) (s : Same H H') : IntsT T H' p ns := h.kp (T' := fun _ => False) (.of_same s) (fun _ z => z.elim)
theorem Rows.same {H' : Hp} (h : Rows T H p rs) (s : Same H H') : Rows T H' p rs := h.kp (T' := fun _ => False) (.of_same s) (fun _ z => z.elim)
theorem RowsT.same {H' : Hp} (h : RowsT T H p rs) (s : Same H H') : RowsT T H' p rs := h.kp (T' := fun _ => False) (.of_same s) (fun _ z => z.elim)
/-- an object is none of the data -/
theorem Ints.ins {q C dx : Addr} {fs : List (Str × V)} {ns : List Nat} (h : Ints T H p ns) (e : H q = some (.ins C dx fs)) : Ints (fun b => T b ∨ b = q) H p ns := ⟨fun z => z.elim h.1 fun z => by
  obtain ⟨t, e'⟩ := h.2
  rw [z, e] at e'
  (cases t with | true => cases e' | false => cases e'), h.2⟩
theorem IntsT.ins {q C dx : Addr} {fs : List (Str × V)} {ns : List Nat} (h : IntsT T H p ns) (e : H q = some (.ins C dx fs)) : IntsT (fun b => T b ∨ b = q) H p ns := ⟨fun z => z.elim h.1 fun z => by
  have e' := h.2
  rw [z, e] at e'
  (cases e'), h.2⟩
theorem Rows.ins {q C dx : Addr} {fs : List (Str × V)} (h : Rows T H p rs) (e : H q = some (.ins C dx fs)) : Rows (fun b => T b ∨ b = q) H p rs := by
  obtain ⟨h1, t, as, h2, h3⟩ := h
  refine ⟨fun z => z.elim h1 fun z => ?_, t, as, h2, Paired.mapP h3 fun _ _ z => z.ins e⟩
  rw [z, e] at h2
  (cases t with | true => cases h2 | false => cases h2)
theorem RowsT.ins {q C dx : Addr} {fs : List (Str × V)} (h : RowsT T H p rs) (e : H q = some (.ins C dx fs)) : RowsT (fun b => T b ∨ b = q) H p rs := by
  obtain ⟨h1, as, h2, h3⟩ := h
  refine ⟨fun z => z.elim h1 fun z => ?_, as, h2, Paired.mapP h3 fun _ _ z => z.ins e⟩
  rw [z, e] at h2
  cases h2
end
theorem nk_ints {H : Hp} : ∀ ns : List Nat, NKs' H (ns.map nkN) (ns.map vn)
  | [] => .nil
  | n :: ns => .cons (.int _) (nk_ints ns)
theorem nk_depth : ∀ ns : List Nat, NestedKey.depthAll (ns.map nkN) = 0
  | [] => by simp [NestedKey.depthAll]
  | n :: ns => by
    simp only [List.map_cons, NestedKey.depthAll, nk_depth ns]
    simp [nkN, NestedKey.depth]
theorem occ_at {al : List Nat} {k c : Nat} (hn : al.Nodup) (h : al[k]? = some c) : ∃ rest, Builtin.Str.occurrences (SX.S al) (⟨#[c]⟩ : Str) 0 (SX.S al).length 1 = k :: rest := by
  have hf := SX.in_one al c
  have hm : c ∈ al := List.mem_of_getElem? h
  rw [decide_eq_true hm] at hf
  have e1 : (SX.S [c]) = (⟨#[c]⟩ : Str) := rfl
  rw [e1] at hf
  obtain ⟨f, ch⟩ := StrLaws.occ_chain (SX.S al) (⟨#[c]⟩ : Str) 1
  cases q : Builtin.Str.occurrences (SX.S al) (⟨#[c]⟩ : Str) 0 (SX.S al).length 1 with
  | nil => rw [q] at hf; cases hf
  | cons i rest =>
    rw [q] at ch
    have hA : (SX.S al).cps.toList[i]? = some c := (StrLaws.subAt_one (SX.S al) c i).mp ch.2.1
    have hA' : al[i]? = some c := by simpa [SX.S] using hA
    have e : i = k := by
      obtain ⟨h1, h2⟩ := List.getElem?_eq_some_iff.mp hA'
      obtain ⟨h3, h4⟩ := List.getElem?_eq_some_iff.mp h
      have pw := List.pairwise_iff_getElem.mp hn
      rcases Nat.lt_trichotomy i k with z | z | z
      · exact (pw i k h1 h3 z (h2.trans h4.symm)).elim
      · exact z
      · exact (pw k i h3 h1 z (h4.trans h2.symm)).elim
    exact ⟨rest, by rw [e]⟩
def rSIdx : V → List V → Hp → VK → Prop := fun x xs H Q => ∃ a b i rest, x = .str a ∧ xs = [.str b] ∧ Builtin.Str.occurrences a b 0 a.length 1 = i :: rest ∧ Q (.int (i : Nat)) H
theorem sidxK {X : Cx} (K : PySem.W.Frag) (h : X.K = K) {o e : Expr} {to : TE} {ta : TA} {apos cpos : Pos} (ho : PE X o to) (ha : PA X [e] ta)
    (hbase : attributeBase o "index" X.env (eval o X.env) = eval o X.env := by rfl)
    (hfew : ((backTo cpos (starEach (e :: []) X.env)).all (fun x => !x.1) && (backToKw cpos (keywordEach [] X.env)).all (fun x => x.1.isSome)
      && decide ((e :: ([] : List Expr)).length + ([] : List Keyword).length + (if ([] : List Keyword).isEmpty then 0 else 1) < 30)) = true := by rfl)
    (hline : (apos.endLine == cpos.line) = true := by rfl) (hs : starEach (e :: []) X.env = (false, eval e X.env) :: starEach [] X.env := by rfl) (hplain : (backTo cpos (starEach [] X.env)).any (·.1) = false := by rfl) :
    PE X (.Call (.Attribute o "index" apos) [e] [] cpos) (tBM K "str" rSIdx to ta) := by
  subst h
  exact pe_bm PySem.F.plainAttrs_str PySem.F.slot_str_index PySem.F.type_str_index mt_sindex ho ha hbase hfew hline hs hplain
theorem i_sidx {al : List Nat} {k c : Nat} {H : Hp} {Q : VK} (hn : al.Nodup) (h : al[k]? = some c) (q : Q (.int (k : Int)) H) : rSIdx (.str (SX.S al)) [.str ⟨#[c]⟩] H Q := let ⟨r, e⟩ := occ_at hn h; ⟨_, _, k, r, rfl, rfl, e, q⟩
theorem AlOk.nd {al : List Nat} (h : AlOk al) : al.Nodup := h.inc.imp fun z => Nat.ne_of_lt z
structure OwnCal (P : Program) (w : World) (K : PySem.W.Frag) (mg : Str → Option Value) (base : Heap) (k : Nat) (C : Addr) (n : Str) (sp : Sp) : Prop where
  ex : ∃ (f : Addr) (fd : FuncData) (ps : List Str), FnOk P w K mg base C8.CX0 k f fd ps sp ∧ OwnM K C n f ∧ Binds K fd ps []
section
variable {X : Cx} {k j : Nat} {C : Addr} {sp : Sp}
theorem ownIn (c : OwnCal X.prog X.w X.K X.mg X.base k C "__contains__" sp) (hr : Room j X.A) (hk : k ≤ j) : OpR X (compareOp .In) (rOwnIn C sp C8.E0) := by
  obtain ⟨f, fd, ps, F, o, b⟩ := c.ex
  exact op_ownin F (hr.mono hk) o b C8.pass0
theorem ownEq (c : OwnCal X.prog X.w X.K X.mg X.base k C "__eq__" sp) (hr : Room j X.A) (hk : k ≤ j) : OpR X (compareOp .Eq) (rOwnEq C sp C8.E0) := by
  obtain ⟨f, fd, ps, F, o, b⟩ := c.ex
  exact op_owneq F (hr.mono hk) o b C8.pass0
theorem ownNe (c : OwnCal X.prog X.w X.K X.mg X.base k C "__eq__" sp) (hr : Room j X.A) (hk : k + 1 ≤ j) (hn : PySem.W.findIn X.K (.ref C) "__ne__" = some (some (.builtin "object.__ne__"))) (hm : PySem.W.mroIn X.K C (.type "object") = some true) : OpR X (compareOp .NotEq) (rOwnNe C sp C8.E0) := by
  obtain ⟨f, fd, ps, F, o, b⟩ := c.ex
  exact op_ownne F (hr.mono hk) o hn hm b C8.pass0
end
section
variable {K : PySem.W.Frag} {H : Hp} {Q : VK} {R : Prop}
theorem i_isN {x : V} (q : Q (.bl (decide (x = .non))) H) : rIsN x .non H Q := ⟨rfl, q⟩
theorem i_notN {x : V} (q : Q (.bl (!decide (x = .non))) H) : rNotN x .non H Q := ⟨rfl, q⟩
theorem iteNon {A B : Prop} (h : A) : if decide (V.non = V.non) = true then A else B := ite_dt rfl h
theorem iteNonN {A B : Prop} (h : B) : if (!decide (V.non = V.non)) = true then A else B := ite_ndf rfl h
theorem iteRefN {A B : Prop} {p : Addr} (h : B) : if decide (V.ref p = V.non) = true then A else B := ite_df (by intro z; cases z) h
theorem iteRefNN {A B : Prop} {p : Addr} (h : A) : if (!decide (V.ref p = V.non)) = true then A else B := ite_ndt (by intro z; cases z) h
theorem iteStrN {A B : Prop} {p : Str} (h : B) : if decide (V.str p = V.non) = true then A else B := ite_df (by intro z; cases z) h
theorem iteStrNN {A B : Prop} {p : Str} (h : A) : if (!decide (V.str p = V.non)) = true then A else B := ite_ndt (by intro z; cases z) h
theorem gNil_eq {σ : L2.St} {QS : L2.St → Hp → Prop} : gNil [] σ H QS = QS σ H := by
  unfold gNil
  simp
theorem gCons_eq {t : TG} {u : TGs} {v : V} {r : List V} {σ : L2.St} {QS : L2.St → Hp → Prop} : gCons t u (v :: r) σ H QS = t v σ H fun σ' H' => u r σ' H' QS := propext ⟨fun ⟨_, _, e, h⟩ => by cases e; exact h, fun h => ⟨_, _, rfl, h⟩⟩
theorem i_gTup2 {n : Nat} {t1 t2 : TG} {a : Addr} {x y : V} {σ : L2.St} {QS : L2.St → Hp → Prop} (h : H a = some (.tup [x, y])) (e : 2 = n) (q : t1 x σ H fun σ' H' => t2 y σ' H' QS) : gTup K n (gCons t1 (gCons t2 gNil)) (.ref a) σ H QS :=
  ⟨a, [x, y], rfl, SqT.of h, e, by
    simp only [gCons_eq, gNil_eq]
    exact q⟩
theorem i_gTup3 {n : Nat} {t1 t2 t3 : TG} {a : Addr} {x y z : V} {σ : L2.St} {QS : L2.St → Hp → Prop} (h : H a = some (.tup [x, y, z])) (e : 3 = n) (q : t1 x σ H fun σ' H' => t2 y σ' H' fun σ2 H2 => t3 z σ2 H2 QS) : gTup K n (gCons t1 (gCons t2 (gCons t3 gNil))) (.ref a) σ H QS :=
  ⟨a, [x, y, z], rfl, SqT.of h, e, by
    simp only [gCons_eq, gNil_eq]
    exact q⟩
theorem i_append {l : Addr} {xs : List V} {y : V} (h : H l = some (.lst xs)) (hl : xs.length < 16777216) (q : Q .non (upd H l (.lst (xs ++ [y])))) : rAppend (.ref l) [y] H Q := ⟨l, xs, y, rfl, rfl, h, szlt hl, q⟩
theorem i_bmL {p : Addr} {xs : List V} (h : H p = some (.lst xs)) (q : R) : tyV K "list" (.ref p) H ∧ R := ⟨.inl ⟨rfl, xs, SqL.of h⟩, q⟩
theorem i_bmStr {z : Str} (q : R) : tyV K "str" (.str z) H ∧ R := ⟨rfl, q⟩
theorem i_fldR {f : Str} {a C dx : Addr} {fs : List (Str × V)} {v : V} {R : V → Prop} (h : H a = some (.ins C dx fs)) (c : Cls K C) (n : NoAttr K C f) (e : fs.lookup f = some v) (q : R v) :
    ∃ a' C dx fs v, V.ref a = .ref a' ∧ H a' = some (.ins C dx fs) ∧ Cls K C ∧ NoAttr K C f ∧ fs.lookup f = some v ∧ R v := ⟨a, C, dx, fs, v, rfl, h, c, n, e, q⟩
end
def flds (al : List Nat) (pm pg : Addr) : List (Str × V) := putF "good" (.ref pg) (putF "moves" (.ref pm) (putF "alphabet" (.str (SX.S al)) []))
theorem fl_ma : ¬ (("moves" : Str) = "alphabet") := by decide +kernel
theorem fl_ga : ¬ (("good" : Str) = "alphabet") := by decide +kernel
theorem fl_gm : ¬ (("good" : Str) = "moves") := by decide +kernel
theorem flds_al (al : List Nat) (pm pg : Addr) : (flds al pm pg).lookup ("alphabet" : Str) = some (.str (SX.S al)) := by
  unfold flds
  rw [lookup_putF, if_neg (Ne.symm fl_ga), lookup_putF, if_neg (Ne.symm fl_ma), lookup_putF, if_pos rfl]
theorem flds_mo (al : List Nat) (pm pg : Addr) : (flds al pm pg).lookup ("moves" : Str) = some (.ref pm) := by
  unfold flds
  rw [lookup_putF, if_neg (Ne.symm fl_gm), lookup_putF, if_pos rfl]
theorem flds_go (al : List Nat) (pm pg : Addr) : (flds al pm pg).lookup ("good" : Str) = some (.ref pg) := by
  unfold flds
  rw [lookup_putF, if_pos rfl]
/-- a reader stands at p, none of it among T -/
def Rd (C : Addr) (T : AS) (H : Hp) (p : Addr) (al : List Nat) (rs : Rws) (gd : List Nat) : Prop :=
  ¬ T p ∧ ∃ dx pm pg, H p = some (.ins C dx (flds al pm pg)) ∧ RowsT T H pm rs ∧ IntsT T H pg gd
theorem Rd.kp {C : Addr} {T T' : AS} {H H' : Hp} {p : Addr} {al : List Nat} {rs : Rws} {gd : List Nat} (h : Rd C T H p al rs gd) (k : Kp T' H H') (i : ∀ b, T' b → T b) : Rd C T H' p al rs gd :=
  let ⟨h1, dx, pm, pg, h2, h3, h4⟩ := h; ⟨h1, dx, pm, pg, k _ _ (fun z => h1 (i _ z)) h2, h3.kp k i, h4.kp k i⟩
theorem Rd.same {C : Addr} {T : AS} {H H' : Hp} {p : Addr} {al : List Nat} {rs : Rws} {gd : List Nat} (h : Rd C T H p al rs gd) (s : Same H H') : Rd C T H' p al rs gd := h.kp (T' := fun _ => False) (.of_same s) (fun _ z => z.elim)
end U
namespace U
open PySem PySem.Spec PyProof.Rows L2 C8
def rInSg (neg : Bool) : R2 := fun x y H Q => ∃ c z, x = .str ⟨#[c]⟩ ∧ y = .str z ∧ Q (.bl (if neg then !decide (c ∈ z.cps.toList) else decide (c ∈ z.cps.toList))) H
theorem op_inSg {X : Cx} : OpR X (compareOp .In) (rInSg false) := op_in_sign
theorem op_notInSg {X : Cx} : OpR X (compareOp .NotIn) (rInSg true) := op_notIn_sign
section
variable {H : Hp} {Q : VK} {c : Nat} {al : List Nat} {z : Str}
theorem i_inSg (q : Q (.bl (decide (c ∈ al))) H) : rInSg false (.str ⟨#[c]⟩) (.str (SX.S al)) H Q := ⟨c, _, rfl, rfl, by simpa [SX.S] using q⟩
theorem i_notInSg (q : Q (.bl (!decide (c ∈ al))) H) : rInSg true (.str ⟨#[c]⟩) (.str (SX.S al)) H Q := ⟨c, _, rfl, rfl, by simpa [SX.S] using q⟩
theorem i_notInSgT (h : c ∈ z.cps.toList) (q : Q (.bl false) H) : rInSg true (.str ⟨#[c]⟩) (.str z) H Q := ⟨c, _, rfl, rfl, by simpa [h] using q⟩
end
end U
namespace U
open PySem PySem.Spec PyProof.Rows L2 C8
theorem inV_ints (n : Nat) : ∀ ns : List Nat, inV (vn n) (ns.map vn) = decide (n ∈ ns)
  | [] => rfl
  | a :: ns => by
    have ih := inV_ints n ns
    unfold inV at ih ⊢
    rw [List.map_cons, List.any_cons, ih]
    have e : eqV (vn a) (vn n) = decide (a = n) := by
      show decide ((a : Int) = (n : Int)) = _
      by_cases h : a = n
      · subst h; simp
      · have : ¬ ((a : Int) = (n : Int)) := by omega
        simp [h, this]
    rw [e]
    by_cases h : a = n
    · subst h; simp
    · have h' : ¬ n = a := fun z => h z.symm
      simp [h, h']
theorem flat_ints (ns : List Nat) : (ns.map vn).all flatV = true := by
  rw [List.all_eq_true]
  intro x hx
  obtain ⟨n, _, rfl⟩ := List.mem_map.mp hx
  rfl
theorem i_inI {K : PySem.W.Frag} {H : Hp} {Q : VK} {p : Addr} {t : Bool} {ns : List Nat} {n : Nat} (h : H p = some (sq t (ns.map vn))) (q : Q (.bl (decide (n ∈ ns))) H) : rIn K false (.int (n : Int)) (.ref p) H Q := by
  refine ⟨p, ns.map vn, rfl, ?_, rfl, flat_ints ns, ?_⟩
  · cases t with
    | false => exact .inl (SqL.of h)
    | true => exact .inr (SqT.of h)
  · rw [show inV (.int (n : Int)) (ns.map vn) = decide (n ∈ ns) from inV_ints n ns]
    exact q
theorem i_notInI {K : PySem.W.Frag} {H : Hp} {Q : VK} {p : Addr} {t : Bool} {ns : List Nat} {n : Nat} (h : H p = some (sq t (ns.map vn))) (q : Q (.bl (!decide (n ∈ ns))) H) : rIn K true (.int (n : Int)) (.ref p) H Q := by
  refine ⟨p, ns.map vn, rfl, ?_, rfl, flat_ints ns, ?_⟩
  · cases t with
    | false => exact .inl (SqL.of h)
    | true => exact .inr (SqT.of h)
  · rw [show inV (.int (n : Int)) (ns.map vn) = decide (n ∈ ns) from inV_ints n ns]
    exact q
theorem Word.len {al w z : List Nat} (h : Word al w z) : z.length = w.length := by rw [h.2, List.length_map]
theorem Word.at {al w z : List Nat} {i c : Nat} (h : Word al w z) (hc : z[i]? = some c) : ∃ a, w[i]? = some a ∧ a < al.length ∧ al[a]? = some c := by
  rw [h.2, List.getElem?_map] at hc
  cases e : w[i]? with
  | none => rw [e] at hc; cases hc
  | some a =>
    rw [e] at hc
    have ha := h.1 a (List.mem_of_getElem? e)
    refine ⟨a, rfl, ha, ?_⟩
    have hc' : al.getD a 0 = c := Option.some.inj hc
    rw [List.getElem?_eq_getElem ha]
    rw [List.getD_eq_getElem?_getD, List.getElem?_eq_getElem ha] at hc'
    exact congrArg some hc'
end U
namespace U
open PySem PySem.Spec PyProof.Rows L2
theorem keyA0 {H : Hp} {p : Addr} {b : Bool} (h : H p = some (.tup [.bl b])) : KeyAt H (.tup [nkB b]) (.ref p) := ⟨p, rfl, NK.tup h (.cons (.bl b) .nil), by simp [NestedKey.depth, NestedKey.depthAll, nkB]⟩
theorem keyA1 {H : Hp} {p q : Addr} {c : Nat} {ts : List Nat} (h : H p = some (.tup [vn c, .ref q])) (h2 : H q = some (.tup (ts.map vn))) : KeyAt H (.tup [nkN c, .tup (ts.map nkN)]) (.ref p) :=
  ⟨p, rfl, NK.tup h (.cons (.int _) (.cons (NK.tup h2 (nk_ints ts)) .nil)), by simp [NestedKey.depth, NestedKey.depthAll, nk_depth, nkN]⟩
theorem keyP {H : Hp} {p : Addr} {a b : Nat} (h : H p = some (.tup [vn a, vn b])) : KeyAt H (.tup [nkN a, nkN b]) (.ref p) := ⟨p, rfl, NK.tup h (.cons (.int _) (.cons (.int _) .nil)), by simp [NestedKey.depth, NestedKey.depthAll, nkN]⟩
theorem KeyAt.kp {H H' : Hp} {k : NestedKey} {y : V} (h : KeyAt H k y) (t : TKp H H') : KeyAt H' k y := let ⟨a, e, n, d⟩ := h; ⟨a, e, n.kp t, d⟩
theorem tkp_same {H H' : Hp} (s : Same H H') : TKp H H' := fun b _ e => s b _ e
theorem NDict.same {P : Program} {w : World} {H H' : Hp} {d : Addr} {kvs : List (NestedKey × V)} (n : NDict P w H d kvs) (s : Same H H') : NDict P w H' d kvs := by
  obtain ⟨xs, h1, h2, h3⟩ := n.ex
  exact ⟨⟨xs, s _ _ h1, fun x hx => ⟨(h2 x hx).1.kp (tkp_same s), (h2 x hx).2⟩, h3⟩, n.nz, n.len⟩
theorem NDict.old {P : Program} {w : World} {H : Hp} {d : Addr} {kvs : List (NestedKey × V)} (n : NDict P w H d kvs) : Old H d := by
  obtain ⟨xs, h1, _⟩ := n.ex
  exact ⟨_, h1⟩
theorem NDict.notdK {P : Program} {w : World} {H : Hp} {d e : Addr} {kvs : List (NestedKey × V)} {ks : List (Key × V)} (n : NDict P w H d kvs) (h : H e = some (.dK ks)) : d ≠ e := fun z => by
  obtain ⟨xs, h1, _⟩ := n.ex
  rw [z, h] at h1
  cases h1
theorem NDict.nottup {P : Program} {w : World} {H : Hp} {d : Addr} {kvs : List (NestedKey × V)} (n : NDict P w H d kvs) (vs : List V) : H d ≠ some (.tup vs) := fun z => by
  obtain ⟨xs, h1, _⟩ := n.ex
  rw [z] at h1
  cases h1
theorem NDict.notlst {P : Program} {w : World} {H : Hp} {d e : Addr} {kvs : List (NestedKey × V)} {ks : List V} (n : NDict P w H d kvs) (h : H e = some (.lst ks)) : d ≠ e := fun z => by
  obtain ⟨xs, h1, _⟩ := n.ex
  rw [z, h] at h1
  cases h1
theorem NDict.upd {P : Program} {w : World} {H : Hp} {d e : Addr} {kvs : List (NestedKey × V)} {o : HO} (n : NDict P w H d kvs) (h : d ≠ e) (t : ∀ vs, H e ≠ some (.tup vs)) : NDict P w (upd H e o) d kvs := n.kp (tkp_upd t) (upd_ne h)
section
variable {α : Type} [DecidableEq α]
theorem dd_pre (l m : List α) : ∃ k, dd (l ++ m) = dd l ++ k := by
  unfold dd
  rw [addsN_app]
  exact addsN_pre _ _
theorem pl_pre {l m : List α} {x : α} (h : x ∉ dd l) : pl (dd (l ++ x :: m)) x = (dd l).length := by
  have e : l ++ x :: m = (l ++ [x]) ++ m := by simp
  obtain ⟨k, hk⟩ := dd_pre (l ++ [x]) m
  rw [e, hk, dd_snoc, addN, if_neg h]
  unfold pl
  rw [List.append_assoc, List.idxOf_append, if_neg h]
  simp
theorem dd_take {l : List α} {i : Nat} {x : α} (h : l[i]? = some x) : dd (l.take (i + 1)) = addN (dd (l.take i)) x := by rw [take_at h, dd_snoc]
theorem split_at {l : List α} {i : Nat} {x : α} (h : l[i]? = some x) : l = l.take i ++ x :: l.drop (i + 1) := by
  obtain ⟨hi, e⟩ := List.getElem?_eq_some_iff.mp h
  rw [← e, ← List.drop_eq_getElem_cons hi, List.take_append_drop]
theorem pl_take {l : List α} {i : Nat} {x : α} (h : l[i]? = some x) (hn : x ∉ dd (l.take i)) : pl (dd l) x = (dd (l.take i)).length := by
  have e := split_at h
  conv => lhs; rw [e]
  exact pl_pre hn
end
def dInts (ns : List Nat) : PyData := .tuple (ns.map fun (n : Nat) => PyData.int (n : Int))
def dIntsL (ns : List Nat) : PyData := .list (ns.map fun (n : Nat) => PyData.int (n : Int))
def dRows (rs : Rws) : PyData := .tuple (rs.map dInts)
section
variable {K : PySem.W.Frag} {H : Hp} {T : AS} {p : Addr}
theorem dp_ints : ∀ ns : List Nat, DpAll K H (ns.map vn) (ns.map fun (n : Nat) => PyData.int (n : Int))
  | [] => .nil
  | n :: ns => .cons (.int _) (dp_ints ns)
theorem IntsT.dp {ns : List Nat} (h : IntsT T H p ns) : Dp K H (.ref p) (dInts ns) := .tup (SqT.of h.2) (dp_ints ns)
theorem dp_intsL {ns : List Nat} (h : H p = some (.lst (ns.map vn))) : Dp K H (.ref p) (dIntsL ns) := .lst (SqL.of h) (dp_ints ns)
theorem dp_rows : ∀ {as : List Addr} {rs : Rws}, Paired (fun a r => IntsT T H a r) as rs → DpAll K H (as.map V.ref) (rs.map dInts)
  | _, _, .nil => .nil
  | _, _, .cons h t => .cons h.dp (dp_rows t)
theorem RowsT.dp {rs : Rws} (h : RowsT T H p rs) : Dp K H (.ref p) (dRows rs) := by
  obtain ⟨_, as, h2, h3⟩ := h
  exact .tup (SqT.of h2) (dp_rows h3)
end
theorem eqvAll_ints : ∀ a b : List Nat, PyData.eqvAll (a.map fun (n : Nat) => PyData.int (n : Int)) (b.map fun (n : Nat) => PyData.int (n : Int)) = decide (a = b)
  | [], [] => by simp [PyData.eqvAll]
  | [], _ :: _ => by simp [PyData.eqvAll]
  | _ :: _, [] => by simp [PyData.eqvAll]
  | x :: a, y :: b => by
    rw [List.map_cons, List.map_cons, PyData.eqvAll, eqvAll_ints a b, PyData.eqv]
    by_cases h : x = y
    · subst h; simp
    · have : ¬ ((x : Int) = (y : Int)) := by omega
      simp [h, this]
theorem eqv_dInts (a b : List Nat) : PyData.eqv (dInts a) (dInts b) = decide (a = b) := by rw [dInts, dInts, PyData.eqv, eqvAll_ints]
theorem eqv_dIntsL (a b : List Nat) : PyData.eqv (dIntsL a) (dIntsL b) = decide (a = b) := by rw [dIntsL, dIntsL, PyData.eqv, eqvAll_ints]
theorem eqvAll_rows : ∀ a b : Rws, PyData.eqvAll (a.map dInts) (b.map dInts) = decide (a = b)
  | [], [] => by simp [PyData.eqvAll]
  | [], _ :: _ => by simp [PyData.eqvAll]
  | _ :: _, [] => by simp [PyData.eqvAll]
  | x :: a, y :: b => by
    rw [List.map_cons, List.map_cons, PyData.eqvAll, eqvAll_rows a b, eqv_dInts]
    by_cases h : x = y
    · subst h; simp
    · simp [h]
theorem eqv_dRows (a b : Rws) : PyData.eqv (dRows a) (dRows b) = decide (a = b) := by rw [dRows, dRows, PyData.eqv, eqvAll_rows]
theorem lay_ints : ∀ a : List Nat, PyData.canLayAll0 (a.map fun (n : Nat) => PyData.int (n : Int)) = true ∧ PyData.depthAll (a.map fun (n : Nat) => PyData.int (n : Int)) = 0
  | [] => by simp [PyData.canLayAll0, PyData.depthAll]
  | x :: a => by
    have h := lay_ints a
    rw [List.map_cons, PyData.canLayAll0, PyData.depthAll, h.1, h.2]
    simp [PyData.canLay0, PyData.depth]
theorem lay_rows : ∀ a : Rws, PyData.canLayAll0 (a.map dInts) = true ∧ PyData.depthAll (a.map dInts) ≤ 1
  | [] => by simp [PyData.canLayAll0, PyData.depthAll]
  | x :: a => by
    have h := lay_rows a
    have hx := lay_ints x
    rw [List.map_cons, PyData.canLayAll0, PyData.depthAll, h.1, dInts, PyData.canLay0, PyData.depth, hx.1, hx.2]
    exact ⟨rfl, Nat.max_le.mpr ⟨by omega, h.2⟩⟩
theorem shaped_ints (a : List Nat) : SeqAt.shaped (dInts a) = true := by
  have h := lay_ints a
  unfold SeqAt.shaped
  rw [dInts, PyData.canLay0, PyData.depth, h.1, h.2]
  decide
theorem shaped_intsL (a : List Nat) : SeqAt.shaped (dIntsL a) = true := by
  have h := lay_ints a
  unfold SeqAt.shaped
  rw [dIntsL, PyData.canLay0, PyData.depth, h.1, h.2]
  decide
theorem shaped_rows (a : Rws) : SeqAt.shaped (dRows a) = true := by
  have h := lay_rows a
  unfold SeqAt.shaped
  rw [dRows, PyData.canLay0, PyData.depth, h.1, Bool.true_and]
  exact decide_eq_true (by omega)
section
variable {K : PySem.W.Frag} {H : Hp} {T T' : AS} {p q : Addr} {Q : VK}
theorem i_eqInts {a b : List Nat} (h : IntsT T H p a) (h' : IntsT T' H q b) (k : Q (.bl (decide (a = b))) H) : rEqD K (.ref p) (.ref q) H Q := ⟨_, _, h.dp, h'.dp, shaped_ints _, shaped_ints _, by rw [eqv_dInts]; exact k⟩
theorem i_eqIntsL {a b : List Nat} (h : H p = some (.lst (a.map vn))) (h' : H q = some (.lst (b.map vn))) (k : Q (.bl (decide (a = b))) H) : rEqD K (.ref p) (.ref q) H Q := ⟨_, _, dp_intsL h, dp_intsL h', shaped_intsL _, shaped_intsL _, by rw [eqv_dIntsL]; exact k⟩
theorem i_eqRows {a b : Rws} (h : RowsT T H p a) (h' : RowsT T' H q b) (k : Q (.bl (decide (a = b))) H) : rEqD K (.ref p) (.ref q) H Q := ⟨_, _, h.dp, h'.dp, shaped_rows _, shaped_rows _, by rw [eqv_dRows]; exact k⟩
end
end U
namespace U
open PySem PySem.Spec PyProof.Rows L2
theorem Same.put {H0 H : Hp} {p : Addr} {o : HO} (s : Same H0 H) (h : H0 p = none) : Same H0 (upd H p o) := fun b u e => by
  rw [upd_ne (ne_of_none e h)]
  exact s _ _ e
theorem i_cut {t u : TS} {D : Ends} {σ : L2.St} {H : Hp} (Mid : L2.St → Hp → Prop) (h1 : t { D with nx := Mid } σ H) (h2 : ∀ σ' H', Mid σ' H' → u D σ' H') : C8.tCut t u D σ H := ⟨Mid, h1, h2⟩
section
variable {P : Program} {w : World} {H : Hp} {Q : VK} {d : Addr} {k : NestedKey} {y : V} {kvs : List (NestedKey × V)}
theorem r_nnotin (n : NDict P w H d kvs) (ky : KeyAt H k y) (q : Q (.bl (!(lookN kvs k).isSome)) H) : RNNotIn P w (.ref d) y H Q := ⟨d, k, kvs, rfl, n, ky, q⟩
theorem r_nin (n : NDict P w H d kvs) (ky : KeyAt H k y) (q : Q (.bl (lookN kvs k).isSome) H) : RNIn P w (.ref d) y H Q := ⟨d, k, kvs, rfl, n, ky, q⟩
theorem r_nget {v : V} (n : NDict P w H d kvs) (ky : KeyAt H k y) (e : lookN kvs k = some v) (q : Q v H) : RNGet P w (.ref d) y H Q := ⟨d, k, kvs, v, rfl, n, ky, e, q⟩
theorem r_nput {v : V} {R : Hp → Prop} (n : NDict P w H d kvs) (ky : KeyAt H k y) (hl : kvs.length < 16777216) (q : ∀ o, NDict P w (upd H d o) d (putN kvs k v) → R (upd H d o)) : RNPut P w (.ref d) y v H R := ⟨d, k, kvs, rfl, n, ky, szlt hl, q⟩
end
end U
namespace U
theorem map_at' {α β : Type} {f : α → β} {xs : List α} {i : Nat} {x : α} (h : xs[i]? = some x) : (xs.map f)[i]? = some (f x) := by
  rw [List.getElem?_map, h]
  rfl
end U
namespace U
open L2 PySem
theorem sz1 {x : V} : [x].length ≤ sizeLine := szl (by show 1 ≤ 16777216; decide)
theorem sz2 {x y : V} : [x, y].length ≤ sizeLine := szl (by show 2 ≤ 16777216; decide)
theorem sz3 {x y z : V} : [x, y, z].length ≤ sizeLine := szl (by show 3 ≤ 16777216; decide)
end U
namespace U
open PySem PySem.Spec PyProof.Rows L2
theorem same_free {H H' : Hp} (s : Same H H') {p : Addr} (h : H' p = none) : H p = none := by
  cases e : H p with
  | none => rfl
  | some o => rw [s _ _ e] at h; cases h
/-- a list that grows beside all that stood: D fresh in H -/
theorem Same.grow {H H' : Hp} {D : Addr} {o : HO} (s : Same H H') (h : H D = none) : Same H (upd H' D o) := Same.put s h
end U
namespace U
open PySem PySem.Spec PyProof.Rows L2
theorem i_make {C : Addr} {sp : Sp} {E : XK} {t : TA} {σ : L2.St} {H : Hp} {Q : VK} (q : t σ H fun vs H1 => ∀ x dx, H1 x = none → H1 dx = none → dx ≠ x → sp (.ref x :: vs) (upd (upd H1 dx (.own x)) x (.ins C dx [])) (fun v H2 => v = .non ∧ Q (.ref x) H2) E) : tMake C sp [] E t σ H Q := by
  refine cast ?_ q
  unfold tMake
  simp only [List.append_nil]
theorem made_same {H H2 : Hp} {x dx C : Addr} (hx : H x = none) (hd : H dx = none) (k : Kp (fun b => b = x) (upd (upd H dx (.own x)) x (.ins C dx [])) H2) : Same H H2 := fun b o e => by
  have h1 : b ≠ x := fun z => by rw [z, hx] at e; cases e
  have h2 : b ≠ dx := fun z => by rw [z, hd] at e; cases e
  exact k b o h1 (by rw [upd_ne h1, upd_ne h2]; exact e)
end U
namespace U
open PySem PySem.Spec PyProof.Rows L2
theorem SqL.same {K : PySem.W.Frag} {H H' : Hp} {a : Addr} {xs : List V} (h : SqL K H a xs) (e : Same H H') : SqL K H' a xs :=
  h.elim (fun h => .inl (h.elim (fun h => .inl (e _ _ h)) fun ⟨o, h⟩ => .inr ⟨o, e _ _ h⟩)) fun h => .inr h
theorem i_lenLs {K : PySem.W.Frag} {H : Hp} {Q : VK} {p : Addr} {xs : List V} (h : SqL K H p xs) (q : Q (.int (xs.length : Nat)) H) : rLen K [.ref p] H Q := ⟨_, _, rfl, .inl ⟨xs, h, rfl⟩, q⟩
/-- a machine: rows and good rooms -/
def Mach (T : AS) (H : Hp) (p : Addr) (rs : Rws) (gd : List Nat) : Prop := ¬ T p ∧ ∃ pm pg, H p = some (.tup [.ref pm, .ref pg]) ∧ Rows T H pm rs ∧ Ints T H pg gd
theorem Mach.kp {T T' : AS} {H H' : Hp} {p : Addr} {rs : Rws} {gd : List Nat} (h : Mach T H p rs gd) (k : Kp T' H H') (i : ∀ b, T' b → T b) : Mach T H' p rs gd :=
  let ⟨h1, pm, pg, h2, h3, h4⟩ := h; ⟨h1, pm, pg, k _ _ (fun z => h1 (i _ z)) h2, h3.kp k i, h4.kp k i⟩
theorem Mach.same {T : AS} {H H' : Hp} {p : Addr} {rs : Rws} {gd : List Nat} (h : Mach T H p rs gd) (s : Same H H') : Mach T H' p rs gd := h.kp (T' := fun _ => False) (.of_same s) (fun _ z => z.elim)
theorem cutV_to3 (xs : List V) : cutV xs none (some 3) = xs.take 3 := by
  unfold cutV
  have e1 : HT.sIx xs.length 0 none = 0 := rfl
  rw [e1, List.drop_zero, Nat.sub_zero]
  by_cases h : xs.length ≤ 3
  · rw [List.take_of_length_le h]
    refine List.take_of_length_le ?_
    simp [HT.sIx]
    omega
  · congr 1
    simp [HT.sIx]
    omega
theorem intBits_lt {i : Int} {n : Nat} (h0 : 0 < n) (h : i.natAbs < 2 ^ n) : Builtin.Int.intBits i ≤ n := by
  have e : Builtin.Int.intBits i ≤ i.natAbs.log2 + 1 := by
    unfold Builtin.Int.intBits
    split <;> omega
  have := PySem.Flt.log2_lt_of h0 h
  omega
end U
namespace U
open PySem PySem.Spec PyProof.Rows L2
section
variable {S : AS} {H H' : Hp} {p D : Addr} {o : HO} {rs : Rws} {gd ns : List Nat}
theorem Ev.put (hS : Srcs S H) (e : Ev S H H') (h : H D = none) : Ev S H (upd H' D o) := ⟨fun b u n q => by
  rw [upd_ne (ne_of_none q h)]
  exact e.kp b u n q, fun a ha => by
  obtain ⟨x, y, z, q⟩ := e.src a ha
  refine ⟨x, y, z, ?_⟩
  rw [upd_ne (fun z => hS.notin h (by rw [← z]; exact ha))]
  exact q⟩
theorem Ev.at (e : Ev S H H') (n : ¬ S p) (h : H p = some o) : H' p = some o := e.kp _ _ n h
theorem Ints.ev (h : Ints S H p ns) (e : Ev S H H') : Ints S H' p ns := h.kp e.kp fun _ z => z
theorem IntsT.ev (h : IntsT S H p ns) (e : Ev S H H') : IntsT S H' p ns := h.kp e.kp fun _ z => z
theorem Rows.ev (h : Rows S H p rs) (e : Ev S H H') : Rows S H' p rs := h.kp e.kp fun _ z => z
theorem RowsT.ev (h : RowsT S H p rs) (e : Ev S H H') : RowsT S H' p rs := h.kp e.kp fun _ z => z
theorem Mach.ev (h : Mach S H p rs gd) (e : Ev S H H') : Mach S H' p rs gd := h.kp e.kp fun _ z => z
theorem Rd.ev {C : Addr} {al : List Nat} (h : Rd C S H p al rs gd) (e : Ev S H H') : Rd C S H' p al rs gd := h.kp e.kp fun _ z => z
/-- a list that grows by whole numbers drawn -/
theorem paired_ev {as : List Addr} {rws : Rws} (h : Paired (fun a r => Ints S H a r) as rws) (e : Ev S H H') : Paired (fun a r => Ints S H' a r) as rws := Paired.mapP h fun _ _ z => z.ev e
end
theorem join_sum (cs : List Nat) : ((cs.map fun c => (⟨#[c]⟩ : Str)).map (·.length)).sum = cs.length := by
  induction cs with
  | nil => rfl
  | cons c r ih =>
    rw [List.map_cons, List.map_cons, List.sum_cons, ih, List.length_cons]
    show 1 + r.length = r.length + 1
    omega
theorem i_exS {z : Str} {R : Prop} (r : R) : (∃ a, V.str z = .str a) ∧ R := ⟨⟨z, rfl⟩, r⟩
theorem joinL_one : ∀ cs : List Nat, TL.joinL [] (cs.map fun c => [c]) = cs
  | [] => rfl
  | [_] => rfl
  | c :: d :: r => by
    have ih := joinL_one (d :: r)
    rw [List.map_cons] at ih
    rw [List.map_cons, List.map_cons]
    show [c] ++ ([] ++ TL.joinL [] ([d] :: r.map fun c => [c])) = _
    rw [ih]
    rfl
theorem join_one (cs : List Nat) : Txt.join ("" : Str) (cs.map fun c => (⟨#[c]⟩ : Str)) = SX.S cs := by
  have e := SX.join_S [] (cs.map fun c => [c])
  have e1 : (cs.map fun c => [c]).map SX.S = cs.map fun c => (⟨#[c]⟩ : Str) := by
    rw [List.map_map]
    rfl
  have e2 := joinL_one cs
  rw [e1] at e
  rw [show (SX.S [] : Str) = "" from rfl] at e
  rw [e, e2]
end U
namespace U
open PySem PySem.Spec PyProof.Rows L2
section
variable {te t : TE} {tl th : L2.TO} {r : V → Option Int → Option Int → Hp → VK → Prop} {σ : L2.St} {H : Hp} {Q : VK} {QO : Option Int → Hp → Prop}
theorem i_sl (q : te σ H fun x H1 => tl σ H1 fun l H2 => th σ H2 fun u H3 => r x l u H3 Q) : L2.tSl r te tl th σ H Q := q
theorem i_noPart (q : QO none H) : tNoPart σ H QO := q
theorem i_part (q : t σ H fun x H1 => ∃ i, x = .int i ∧ QO (some i) H1) : tPart t σ H QO := q
theorem ex_intV {n : Int} {P : Int → Prop} (h : P n) : ∃ i, V.int n = .int i ∧ P i := ⟨n, rfl, h⟩
end
end U
namespace U
open PySem PySem.Spec PyProof.Rows L2
theorem paired_of {α β : Type} {F : α → β → Prop} : ∀ {xs : List α} {ys : List β}, xs.length = ys.length → (∀ (i : Nat) (x : α) (y : β), xs[i]? = some x → ys[i]? = some y → F x y) → Paired F xs ys
  | [], [], _, _ => .nil
  | [], _ :: _, h, _ => by simp at h
  | _ :: _, [], h, _ => by simp at h
  | x :: xs, y :: ys, h, f => .cons (f 0 x y rfl rfl) (paired_of (by simpa using h) fun i a b ha hb => f (i + 1) a b (by simpa using ha) (by simpa using hb))
theorem ixN_nat {n y : Nat} (h : y < n) : ixN n (y : Int) = some y := by
  unfold ixN
  rw [if_pos (by omega), if_pos (by omega), Int.toNat_natCast]
end U
namespace U
section
variable {rs : Rws}
theorem scan_step (k : Nat) : ∃ m, scanAt rs (k + 1) = scanAt rs k ++ m := addsN_pre _ _
theorem scan_mono (k j : Nat) : ∃ m, scanAt rs (k + j) = scanAt rs k ++ m := by
  induction j with
  | zero => exact ⟨[], by simp⟩
  | succ j ih =>
    obtain ⟨m, e⟩ := ih
    obtain ⟨m', e'⟩ := scan_step (rs := rs) (k + j)
    exact ⟨m ++ m', by rw [← Nat.add_assoc, e', e, List.append_assoc]⟩
theorem scan_sub {k l : Nat} (h : k ≤ l) {x : Nat} (hx : x ∈ scanAt rs k) : x ∈ scanAt rs l := by
  obtain ⟨m, e⟩ := scan_mono (rs := rs) k (l - k)
  rw [show k + (l - k) = l by omega] at e
  rw [e]
  exact List.mem_append_left _ hx
theorem addsN_same {α : Type} [DecidableEq α] {o ts : List α} (h : ∀ t ∈ ts, t ∈ o) : addsN o ts = o := by
  induction ts with
  | nil => rfl
  | cons t ts ih =>
    show addsN (addN o t) ts = o
    rw [addN, if_pos (h t (List.mem_cons_self ..))]
    exact ih fun u hu => h u (List.mem_cons_of_mem _ hu)
/-- what a room leads to comes in when it is gone through -/
theorem scan_row {k q r : Nat} (hq : q < k) (h : (scanAt rs q)[q]? = some r) {t : Nat} (ht : t ∈ row rs r) : t ∈ scanAt rs k := by
  refine scan_sub hq ?_
  show t ∈ addsN (scanAt rs q) (row rs ((scanAt rs q).getD q 0))
  rw [List.getD_eq_getElem?_getD, h]
  exact mem_addsN.mpr (.inr ht)
/-- once all are gone through nothing changes -/
theorem scan_stuck {k : Nat} (h : (scanAt rs k).length ≤ k) : scanAt rs (k + 1) = scanAt rs k := by
  show addsN (scanAt rs k) (row rs ((scanAt rs k).getD k 0)) = _
  refine addsN_same fun t ht => ?_
  rw [List.getD_eq_getElem?_getD, List.getElem?_eq_none h] at ht
  have hp := scan_pos rs k
  exact scan_row (q := 0) (by omega) (scan0 rs 0) ht
theorem scan_stays {k : Nat} (h : (scanAt rs k).length ≤ k) (j : Nat) : scanAt rs (k + j) = scanAt rs k := by
  induction j with
  | zero => rfl
  | succ j ih =>
    rw [← Nat.add_assoc]
    rw [scan_stuck (by rw [ih]; omega), ih]
theorem scan_full {k l : Nat} (h : (scanAt rs k).length ≤ k) (hl : k ≤ l) : scanAt rs l = scanAt rs k := by
  have := scan_stays h (l - k)
  rwa [show k + (l - k) = l by omega] at this
theorem scan_at {k q r : Nat} (hq : q < k) (h : (scanAt rs k)[q]? = some r) : (scanAt rs q)[q]? = some r := by
  by_cases hl : q < (scanAt rs q).length
  · obtain ⟨m, e⟩ := scan_mono (rs := rs) q (k - q)
    rw [show q + (k - q) = k by omega] at e
    rw [e, List.getElem?_append_left hl] at h
    exact h
  · rw [scan_full (Nat.le_of_not_lt hl) (Nat.le_of_lt hq)] at h
    exact h
theorem scan_closed {k : Nat} (h : (scanAt rs k).length ≤ k) {r t : Nat} (hr : r ∈ scanAt rs k) (ht : t ∈ row rs r) : t ∈ scanAt rs k := by
  obtain ⟨q, hq⟩ := List.mem_iff_getElem?.mp hr
  have hql := (List.getElem?_eq_some_iff.mp hq).1
  exact scan_row (q := q) (by omega) (scan_at (by omega) hq) ht
theorem scan_has0 (k : Nat) : 0 ∈ scanAt rs k := List.mem_of_getElem? (scan0 rs k)
end
end U
namespace U
/-- the good rooms of the least table -/
def lgood (mk : Nat → Bool) (rooms : List Nat) (g : Nat → Nat) : List Nat := (List.range (headsOf rooms g).length).filter fun r => (lmarks mk rooms g).getD r false
theorem num_lt {α : Type} [DecidableEq α] {rooms : List Nat} {sig : Nat → α} {r : Nat} (h : r ∈ rooms) : num rooms sig r < (dd (rooms.map sig)).length := pl_lt (mem_dd.mpr (List.mem_map.mpr ⟨r, h, rfl⟩))
theorem lrows_len (rs : Rws) (o : List Nat) (g : Nat → Nat) : (lrows rs o g).length = (headsOf o g).length := by
  unfold lrows
  rw [List.length_map]
theorem heads_le (o : List Nat) (g : Nat → Nat) : (headsOf o g).length ≤ o.length := by
  rw [heads_len]
  have := len_dd (o.map g)
  rwa [List.length_map] at this
theorem WFB.lrows {m : Nat} {rs : Rws} (w : WFB m rs) {i : Nat} (hi : (scanAt rs i).length = i) (g : Nat → Nat) : WFB m (lrows rs (scanAt rs i) g) where
  pos := by
    rw [lrows_len, heads_len]
    exact List.length_pos_of_mem (mem_dd.mpr (List.mem_map.mpr ⟨0, scan_has0 i, rfl⟩))
  le := by
    rw [lrows_len]
    have h1 := heads_le (scanAt rs i) g
    have h2 := w.scan_len i
    have h3 := w.le
    omega
  m3 := w.m3
  wid := fun r hr => by
    obtain ⟨h, hh, rfl⟩ := List.mem_map.mp hr
    rw [List.length_map]
    exact w.row_len (w.scan_lt i h (heads_mem hh))
  lt := fun r hr t ht => by
    obtain ⟨h, hh, rfl⟩ := List.mem_map.mp hr
    obtain ⟨u, hu, rfl⟩ := List.mem_map.mp ht
    rw [lrows_len, heads_len]
    exact num_lt (scan_closed (by omega) (heads_mem hh) hu)
theorem range_inc (n : Nat) : (List.range n).Pairwise (· < ·) := List.pairwise_lt_range
theorem GOK.filter {n : Nat} (f : Nat → Bool) : GOK n ((List.range n).filter f) := ⟨(range_inc n).filter _, fun x hx => List.mem_range.mp (List.mem_filter.mp hx).1⟩
end U
namespace U
theorem range_filter_t {f : Nat → Bool} {q : Nat} (h : f q = true) : (List.range (q + 1)).filter f = (List.range q).filter f ++ [q] := by
  rw [List.range_succ, List.filter_append, List.filter_cons_of_pos h, List.filter_nil]
theorem range_filter_f {f : Nat → Bool} {q : Nat} (h : f q = false) : (List.range (q + 1)).filter f = (List.range q).filter f := by
  rw [List.range_succ, List.filter_append, List.filter_cons_of_neg (by rw [h]; decide), List.filter_nil, List.append_nil]
end U
namespace U
open PySem
mutual
def clsB (rs : Rws) (gd : List Nat) : Nat → Nat → Nat
  | 0, p => if p ∈ gd then 1 else 0
  | k + 1, p => pl (dd ((List.range rs.length).map fun q => NestedKey.tup [nkN (clsB rs gd k q), .tup ((row rs q).map fun t => nkN (clsB rs gd k t))])) (.tup [nkN (clsB rs gd k p), .tup ((row rs p).map fun t => nkN (clsB rs gd k t))])
end
/-- what a room shows in round k + 1 -/
def sigB (rs : Rws) (gd : List Nat) (k : Nat) (p : Nat) : NestedKey := .tup [nkN (clsB rs gd (k - 1) p), .tup ((row rs p).map fun t => nkN (clsB rs gd (k - 1) t))]
theorem clsB_eq (rs : Rws) (gd : List Nat) (k p : Nat) : clsB rs gd (k + 1) p = num (List.range rs.length) (sigB rs gd (k + 1)) p := by
  simp only [clsB, num]
  rfl
end U
namespace U
section
variable {α β : Type} [DecidableEq α] [DecidableEq β]
theorem dd_map_on {f : α → β} (l : List α) (hf : ∀ x ∈ l, ∀ y ∈ l, f x = f y → x = y) : dd (l.map f) = (dd l).map f := by
  induction l using rev_ind with
  | h0 => rfl
  | hs l x ih =>
    have ih' := ih fun a ha b hb => hf a (List.mem_append_left _ ha) b (List.mem_append_left _ hb)
    rw [List.map_append, List.map_singleton, dd_snoc, dd_snoc, ih']
    unfold addN
    have e : f x ∈ (dd l).map f ↔ x ∈ dd l := ⟨fun h => by
      obtain ⟨y, hy, e⟩ := List.mem_map.mp h
      rw [← hf y (List.mem_append_left _ (mem_dd.mp hy)) x (List.mem_append_right _ (List.mem_singleton.mpr rfl)) e]
      exact hy, fun h => List.mem_map.mpr ⟨x, h, rfl⟩⟩
    by_cases h : x ∈ dd l
    · rw [if_pos h, if_pos (e.mpr h)]
    · rw [if_neg h, if_neg (fun z => h (e.mp z)), List.map_append]
      rfl
theorem pl_inj {l : List α} {x y : α} (hx : x ∈ l) (hy : y ∈ l) (h : pl l x = pl l y) : x = y := by
  have h1 := pl_at hx
  have h2 := pl_at hy
  rw [h, h2] at h1
  exact (Option.some.inj h1).symm
theorem num_inj {rooms : List Nat} {sig : Nat → α} {x y : Nat} (hx : x ∈ rooms) (hy : y ∈ rooms) (h : num rooms sig x = num rooms sig y) : sig x = sig y :=
  pl_inj (mem_dd.mpr (List.mem_map.mpr ⟨x, hx, rfl⟩)) (mem_dd.mpr (List.mem_map.mpr ⟨y, hy, rfl⟩)) h
theorem cnt_num (rooms : List Nat) (sig : Nat → α) : cnt rooms (num rooms sig) = cnt rooms sig := by
  unfold cnt
  have e : rooms.map (num rooms sig) = (rooms.map sig).map (pl (dd (rooms.map sig))) := by
    rw [List.map_map]
    rfl
  rw [e, dd_map_on (rooms.map sig) fun x hx y hy h => pl_inj (mem_dd.mpr hx) (mem_dd.mpr hy) h, List.length_map]
/-- one that shows more has more classes; where they are as many, it shows the same -/
theorem cnt_pick (rooms : List Nat) (s : Nat → α) (u : Nat → β) (h : ∀ x ∈ rooms, ∀ y ∈ rooms, s x = s y → u x = u y) : ∃ g : α → β, ∀ x ∈ rooms, u x = g (s x) := by
  refine ⟨fun k => u ((rooms.find? fun x => decide (s x = k)).getD 0), fun x hx => ?_⟩
  show u x = u ((rooms.find? fun y => decide (s y = s x)).getD 0)
  cases e : rooms.find? fun y => decide (s y = s x) with
  | none =>
    have := List.find?_eq_none.mp e x hx
    simp at this
  | some y =>
    have h1 := List.mem_of_find?_eq_some e
    have h2 := List.find?_some e
    exact h x hx y h1 (of_decide_eq_true h2).symm
theorem cnt_le {rooms : List Nat} {s : Nat → α} {u : Nat → β} (h : ∀ x ∈ rooms, ∀ y ∈ rooms, s x = s y → u x = u y) : cnt rooms u ≤ cnt rooms s := by
  obtain ⟨g, hg⟩ := cnt_pick rooms s u h
  have z : (dd (rooms.map u)).length ≤ ((dd (rooms.map s)).map g).length := nodup_sub (nd_dd _) fun x hx => by
    obtain ⟨r, hr, rfl⟩ := List.mem_map.mp (mem_dd.mp hx)
    rw [hg r hr]
    exact List.mem_map.mpr ⟨s r, mem_dd.mpr (List.mem_map.mpr ⟨r, hr, rfl⟩), rfl⟩
  rwa [List.length_map] at z
theorem nodup_of_len : ∀ {a b : List β}, a.Nodup → (∀ x ∈ a, x ∈ b) → b.length ≤ a.length → b.Nodup
  | a, [], _, _, _ => List.nodup_nil
  | a, y :: b, ha, hs, hl => by
    by_cases hy : y ∈ b
    · have := nodup_sub (k := b) ha fun x hx => by
        rcases List.mem_cons.mp (hs x hx) with e | e
        · rw [e]; exact hy
        · exact e
      rw [List.length_cons] at hl
      omega
    · rw [List.nodup_cons]
      refine ⟨hy, nodup_of_len (a := a.erase y) (ha.erase _) (fun x hx => ?_) ?_⟩
      · have hx' := (ha.mem_erase_iff).mp hx
        rcases List.mem_cons.mp (hs x hx'.2) with e | e
        · exact (hx'.1 e).elim
        · exact e
      · by_cases hm : y ∈ a
        · rw [List.length_erase_of_mem hm]
          rw [List.length_cons] at hl
          omega
        · rw [List.erase_of_not_mem hm]
          rw [List.length_cons] at hl
          omega
theorem map_inj_of_nodup {γ : Type} {f : γ → β} : ∀ {l : List γ}, (l.map f).Nodup → ∀ x ∈ l, ∀ y ∈ l, f x = f y → x = y
  | [], _, _, h, _, _, _ => by cases h
  | a :: l, h, x, hx, y, hy, e => by
    rw [List.map_cons, List.nodup_cons] at h
    rcases List.mem_cons.mp hx with ex | hx1
    · rcases List.mem_cons.mp hy with ey | hy1
      · rw [ex, ey]
      · exact (h.1 (by rw [← ex, e]; exact List.mem_map.mpr ⟨y, hy1, rfl⟩)).elim
    · rcases List.mem_cons.mp hy with ey | hy1
      · exact (h.1 (by rw [← ey, ← e]; exact List.mem_map.mpr ⟨x, hx1, rfl⟩)).elim
      · exact map_inj_of_nodup h.2 x hx1 y hy1 e
theorem cnt_eq {rooms : List Nat} {s : Nat → α} {u : Nat → β} (h : ∀ x ∈ rooms, ∀ y ∈ rooms, s x = s y → u x = u y) (hc : cnt rooms s ≤ cnt rooms u) : ∀ x ∈ rooms, ∀ y ∈ rooms, u x = u y → s x = s y := by
  obtain ⟨g, hg⟩ := cnt_pick rooms s u h
  have nd : ((dd (rooms.map s)).map g).Nodup := nodup_of_len (nd_dd (rooms.map u)) (fun x hx => by
    obtain ⟨r, hr, rfl⟩ := List.mem_map.mp (mem_dd.mp hx)
    rw [hg r hr]
    exact List.mem_map.mpr ⟨s r, mem_dd.mpr (List.mem_map.mpr ⟨r, hr, rfl⟩), rfl⟩) (by rw [List.length_map]; exact hc)
  intro x hx y hy e
  rw [hg x hx, hg y hy] at e
  exact map_inj_of_nodup nd _ (mem_dd.mpr (List.mem_map.mpr ⟨x, hx, rfl⟩)) _ (mem_dd.mpr (List.mem_map.mpr ⟨y, hy, rfl⟩)) e
end
theorem nkN_inj {a b : Nat} (h : nkN a = nkN b) : a = b := by
  unfold nkN at h
  injection h with h
  omega
theorem nk_map_inj : ∀ {a b : List Nat}, a.map nkN = b.map nkN → a = b
  | [], [], _ => rfl
  | [], _ :: _, h => by cases h
  | _ :: _, [], h => by cases h
  | x :: a, y :: b, h => by
    rw [List.map_cons, List.map_cons, List.cons.injEq] at h
    rw [nkN_inj h.1, nk_map_inj h.2]
theorem sigB_fst {rs : Rws} {gd : List Nat} {k p q : Nat} (h : sigB rs gd (k + 1) p = sigB rs gd (k + 1) q) : clsB rs gd k p = clsB rs gd k q := by
  unfold sigB at h
  injection h with h
  rw [List.cons.injEq] at h
  exact nkN_inj h.1
theorem cntB_grow (rs : Rws) (gd : List Nat) (k : Nat) : cnt (List.range rs.length) (clsB rs gd k) ≤ cnt (List.range rs.length) (sigB rs gd (k + 1)) := cnt_le fun _ _ _ _ h => sigB_fst h
theorem cntB_next (rs : Rws) (gd : List Nat) (k : Nat) : cnt (List.range rs.length) (clsB rs gd (k + 1)) = cnt (List.range rs.length) (sigB rs gd (k + 1)) := by
  have e : clsB rs gd (k + 1) = num (List.range rs.length) (sigB rs gd (k + 1)) := funext fun p => clsB_eq rs gd k p
  rw [e, cnt_num]
theorem cnt_len {α : Type} [DecidableEq α] (rooms : List Nat) (s : Nat → α) : cnt rooms s ≤ rooms.length := by
  have := len_dd (rooms.map s)
  rwa [List.length_map] at this
end U
namespace U
open PySem
/-- the same texts from p and from p' -/
def LangEq (m : Nat) (rs : Rws) (gd : List Nat) (p : Nat) (rs' : Rws) (gd' : List Nat) (p' : Nat) : Prop := ∀ w : List Nat, (∀ a ∈ w, a < m) → (run rs p w ∈ gd ↔ run rs' p' w ∈ gd')
theorem LangEq.step {m : Nat} {rs : Rws} {gd : List Nat} {p : Nat} {rs' : Rws} {gd' : List Nat} {p' : Nat} (h : LangEq m rs gd p rs' gd' p') {a : Nat} (ha : a < m) : LangEq m rs gd (stp rs p a) rs' gd' (stp rs' p' a) := fun w hw => h (a :: w) fun b hb => by
  rcases List.mem_cons.mp hb with e | e
  · rw [e]; exact ha
  · exact hw b e
theorem LangEq.here {m : Nat} {rs : Rws} {gd : List Nat} {p : Nat} {rs' : Rws} {gd' : List Nat} {p' : Nat} (h : LangEq m rs gd p rs' gd' p') : p ∈ gd ↔ p' ∈ gd' := h [] (by simp)
theorem LangEq.symm {m : Nat} {rs : Rws} {gd : List Nat} {p : Nat} {rs' : Rws} {gd' : List Nat} {p' : Nat} (h : LangEq m rs gd p rs' gd' p') : LangEq m rs' gd' p' rs gd p := fun w hw => (h w hw).symm
theorem LangEq.trans {m : Nat} {rs : Rws} {gd : List Nat} {p : Nat} {rs' : Rws} {gd' : List Nat} {p' : Nat} {rs2 : Rws} {gd2 : List Nat} {p2 : Nat} (h : LangEq m rs gd p rs' gd' p') (h' : LangEq m rs' gd' p' rs2 gd2 p2) : LangEq m rs gd p rs2 gd2 p2 := fun w hw => (h w hw).trans (h' w hw)
/-- least, in order -/
structure Canon (m : Nat) (rs : Rws) (gd : List Nat) : Prop where
  ord : scanAt rs rs.length = List.range rs.length
  sep : ∀ p q, p < rs.length → q < rs.length → LangEq m rs gd p rs gd q → p = q
/-- where the parting by number stands still, each room is alone -/
theorem clsB_sub (rs : Rws) (gd : List Nat) : ∀ k p q, p < rs.length → q < rs.length → clsB rs gd k p = clsB rs gd k q → (p ∈ gd ↔ q ∈ gd)
  | 0, p, q, _, _, h => by
    simp only [clsB] at h
    by_cases hp : p ∈ gd
    · by_cases hq : q ∈ gd
      · simp [hp, hq]
      · rw [if_pos hp, if_neg hq] at h
        cases h
    · by_cases hq : q ∈ gd
      · rw [if_neg hp, if_pos hq] at h
        cases h
      · simp [hp, hq]
  | k + 1, p, q, hp, hq, h => by
    rw [clsB_eq, clsB_eq] at h
    exact clsB_sub rs gd k p q hp hq (sigB_fst (num_inj (List.mem_range.mpr hp) (List.mem_range.mpr hq) h))
theorem sigB_snd {rs : Rws} {gd : List Nat} {k p q : Nat} (h : sigB rs gd (k + 1) p = sigB rs gd (k + 1) q) : (row rs p).map (clsB rs gd k) = (row rs q).map (clsB rs gd k) := by
  unfold sigB at h
  injection h with h
  rw [List.cons.injEq, List.cons.injEq] at h
  have h2 := h.2.1
  injection h2 with h2
  have e : ∀ r : Nat, (row rs r).map (fun t => nkN (clsB rs gd k t)) = ((row rs r).map (clsB rs gd k)).map nkN := fun r => by rw [List.map_map]; rfl
  have h3 : ((row rs p).map (clsB rs gd k)).map nkN = ((row rs q).map (clsB rs gd k)).map nkN := by
    rw [← e p, ← e q]
    exact h2
  exact nk_map_inj h3
theorem map_getD {f : Nat → Nat} {l l' : List Nat} {a : Nat} (h : l.map f = l'.map f) (ha : a < l.length) (ha' : a < l'.length) : f (l.getD a 0) = f (l'.getD a 0) := by
  have e : (l.map f)[a]? = (l'.map f)[a]? := by rw [h]
  rw [List.getElem?_map, List.getElem?_map, List.getElem?_eq_getElem ha, List.getElem?_eq_getElem ha'] at e
  rw [List.getD_eq_getElem?_getD, List.getD_eq_getElem?_getD, List.getElem?_eq_getElem ha, List.getElem?_eq_getElem ha']
  exact Option.some.inj e
theorem clsB_lang {m : Nat} {rs : Rws} {gd : List Nat} (w : WFB m rs) {k : Nat} (hk : cnt (List.range rs.length) (sigB rs gd (k + 1)) = cnt (List.range rs.length) (clsB rs gd k)) :
    ∀ (l : List Nat) (p q : Nat), p < rs.length → q < rs.length → (∀ a ∈ l, a < m) → clsB rs gd k p = clsB rs gd k q → (run rs p l ∈ gd ↔ run rs q l ∈ gd)
  | [], p, q, hp, hq, _, h => clsB_sub rs gd k p q hp hq h
  | a :: l, p, q, hp, hq, hl, h => by
    have hs := cnt_eq (s := sigB rs gd (k + 1)) (u := clsB rs gd k) (rooms := List.range rs.length) (fun _ _ _ _ z => sigB_fst z) (by omega) p (List.mem_range.mpr hp) q (List.mem_range.mpr hq) h
    have ha := hl a (List.mem_cons_self ..)
    exact clsB_lang w hk l (stp rs p a) (stp rs q a) (w.stp_lt hp ha) (w.stp_lt hq ha) (fun b hb => hl b (List.mem_cons_of_mem _ hb)) (map_getD (sigB_snd hs) (by rw [w.row_len hp]; exact ha) (by rw [w.row_len hq]; exact ha))
theorem Canon.classes {m : Nat} {rs : Rws} {gd : List Nat} (w : WFB m rs) (c : Canon m rs gd) {k : Nat} (hk : cnt (List.range rs.length) (sigB rs gd (k + 1)) = cnt (List.range rs.length) (clsB rs gd k)) : cnt (List.range rs.length) (sigB rs gd (k + 1)) = rs.length := by
  rw [hk]
  have h1 : ∀ x ∈ List.range rs.length, ∀ y ∈ List.range rs.length, clsB rs gd k x = clsB rs gd k y → x = y := fun x hx y hy h => by
    rw [List.mem_range] at hx hy
    exact c.sep x y hx hy fun l hl => clsB_lang w hk l x y hx hy hl h
  have h2 : cnt (List.range rs.length) id ≤ cnt (List.range rs.length) (clsB rs gd k) := cnt_le h1
  have h3 : cnt (List.range rs.length) id = rs.length := by
    unfold cnt
    rw [List.map_id]
    have hn : (List.range rs.length).Nodup := (range_inc _).imp fun z => Nat.ne_of_lt z
    have h4 := nodup_sub hn fun x hx => (mem_dd (l := List.range rs.length)).mpr hx
    have h5 := len_dd (List.range rs.length)
    rw [List.length_range] at h4 h5
    omega
  have h6 := cnt_len (List.range rs.length) (clsB rs gd k)
  rw [List.length_range] at h6
  omega
end U
namespace U
abbrev It := List Nat × Nat × Nat
def ItOk (m : Nat) (A : Rws) (p0 : Nat) (B : Rws) (q0 : Nat) (k : Nat) (prs : List (Nat × Nat)) (it : It) : Prop := (∀ a ∈ it.1, a < m) ∧ it.1.length = k ∧ run A p0 it.1 = it.2.1 ∧ run B q0 it.1 = it.2.2 ∧ it.2 ∈ prs
def Dn (m : Nat) (A : Rws) (gA : List Nat) (B : Rws) (gB : List Nat) (prs : List (Nat × Nat)) (pr : Nat × Nat) : Prop := (pr.1 ∈ gA ↔ pr.2 ∈ gB) ∧ ∀ a, a < m → (stp A pr.1 a, stp B pr.2 a) ∈ prs
theorem Dn.mono {m : Nat} {A : Rws} {gA : List Nat} {B : Rws} {gB : List Nat} {prs prs' : List (Nat × Nat)} {pr : Nat × Nat} (h : Dn m A gA B gB prs pr) (s : ∀ x ∈ prs, x ∈ prs') : Dn m A gA B gB prs' pr := ⟨h.1, fun a ha => s _ (h.2 a ha)⟩
theorem ItOk.mono {m : Nat} {A : Rws} {p0 : Nat} {B : Rws} {q0 k : Nat} {prs prs' : List (Nat × Nat)} {it : It} (h : ItOk m A p0 B q0 k prs it) (s : ∀ x ∈ prs, x ∈ prs') : ItOk m A p0 B q0 k prs' it := ⟨h.1, h.2.1, h.2.2.1, h.2.2.2.1, s _ h.2.2.2.2⟩
theorem dn_all {m : Nat} {A : Rws} {gA : List Nat} {B : Rws} {gB : List Nat} {prs : List (Nat × Nat)} (h : ∀ pr ∈ prs, Dn m A gA B gB prs pr) : ∀ (w : List Nat) (pr : Nat × Nat), pr ∈ prs → (∀ a ∈ w, a < m) → (run A pr.1 w ∈ gA ↔ run B pr.2 w ∈ gB)
  | [], pr, hp, _ => (h pr hp).1
  | a :: w, pr, hp, hw => dn_all h w _ ((h pr hp).2 a (hw a (List.mem_cons_self ..))) fun b hb => hw b (List.mem_cons_of_mem _ hb)
/-- behind i items of the level lv, at the letter t of the next one -/
structure Lev (m : Nat) (A : Rws) (gA : List Nat) (p0 : Nat) (B : Rws) (gB : List Nat) (q0 k : Nat) (lv open_ lt : List It) (prs : List (Nat × Nat)) (cur : Nat × Nat → Prop) : Prop where
  nd : prs.Nodup
  rng : ∀ pr ∈ prs, pr.1 < A.length ∧ pr.2 < B.length
  st : (p0, q0) ∈ prs
  lvo : ∀ it ∈ lv, ItOk m A p0 B q0 k prs it
  lto : ∀ it ∈ lt, ItOk m A p0 B q0 (k + 1) prs it
  dn : ∀ pr ∈ prs, (∃ it ∈ open_, it.2 = pr) ∨ (∃ it ∈ lt, it.2 = pr) ∨ Dn m A gA B gB prs pr ∨ cur pr
  gr : lv ≠ [] → k + 1 + lt.length ≤ prs.length
  em : lv = [] → lt = []
  ll : lt.length ≤ prs.length
section
variable {m : Nat} {A : Rws} {gA : List Nat} {p0 : Nat} {B : Rws} {gB : List Nat} {q0 k : Nat} {lv op lt : List It} {prs : List (Nat × Nat)} {cur : Nat × Nat → Prop}
/-- a pair that was met -/
theorem Lev.add (h : Lev m A gA p0 B gB q0 k lv op lt prs cur) {it : It} (hit : ItOk m A p0 B q0 (k + 1) (prs ++ [it.2]) it) (hne : lv ≠ []) (hn : it.2 ∉ prs) (hr : it.2.1 < A.length ∧ it.2.2 < B.length) : Lev m A gA p0 B gB q0 k lv op (lt ++ [it]) (prs ++ [it.2]) cur where
  nd := by
    rw [List.nodup_append]
    exact ⟨h.nd, by simp, fun x hx y hy e => hn (by rw [← List.mem_singleton.mp hy, ← e]; exact hx)⟩
  rng := fun pr hpr => by
    rcases List.mem_append.mp hpr with e | e
    · exact h.rng pr e
    · rw [List.mem_singleton.mp e]; exact hr
  st := List.mem_append_left _ h.st
  lvo := fun i hi => (h.lvo i hi).mono fun x hx => List.mem_append_left _ hx
  lto := fun i hi => by
    rcases List.mem_append.mp hi with e | e
    · exact (h.lto i e).mono fun x hx => List.mem_append_left _ hx
    · rw [List.mem_singleton.mp e]; exact hit
  dn := fun pr hpr => by
    rcases List.mem_append.mp hpr with e | e
    · rcases h.dn pr e with z | ⟨i, hi, z⟩ | z | z
      · exact .inl z
      · exact .inr (.inl ⟨i, List.mem_append_left _ hi, z⟩)
      · exact .inr (.inr (.inl (z.mono fun x hx => List.mem_append_left _ hx)))
      · exact .inr (.inr (.inr z))
    · exact .inr (.inl ⟨it, List.mem_append_right _ (List.mem_singleton.mpr rfl), (List.mem_singleton.mp e).symm⟩)
  gr := fun z => by
    have := h.gr z
    rw [List.length_append, List.length_append]
    show k + 1 + (lt.length + 1) ≤ prs.length + 1
    omega
  em := fun z => (hne z).elim
  ll := by
    have := h.ll
    rw [List.length_append, List.length_append]
    show lt.length + 1 ≤ prs.length + 1
    omega
theorem Lev.weak {op' : List It} {cur' : Nat × Nat → Prop} (h : Lev m A gA p0 B gB q0 k lv op lt prs cur) (hd : ∀ pr ∈ prs, ((∃ it ∈ op, it.2 = pr) ∨ cur pr) → ((∃ it ∈ op', it.2 = pr) ∨ (∃ it ∈ lt, it.2 = pr) ∨ Dn m A gA B gB prs pr ∨ cur' pr)) : Lev m A gA p0 B gB q0 k lv op' lt prs cur' :=
  ⟨h.nd, h.rng, h.st, h.lvo, h.lto, fun pr hpr => by
    rcases h.dn pr hpr with z | z | z | z
    · exact hd pr hpr (.inl z)
    · exact .inr (.inl z)
    · exact .inr (.inr (.inl z))
    · exact hd pr hpr (.inr z), h.gr, h.em, h.ll⟩
/-- the level is gone through -/
theorem Lev.next (h : Lev m A gA p0 B gB q0 k lv [] lt prs fun _ => False) : Lev m A gA p0 B gB q0 (k + 1) lt lt [] prs fun _ => False where
  nd := h.nd
  rng := h.rng
  st := h.st
  lvo := h.lto
  lto := fun it hi => by cases hi
  dn := fun pr hpr => by
    rcases h.dn pr hpr with ⟨i, hi, _⟩ | z | z | z
    · cases hi
    · exact .inl z
    · exact .inr (.inr (.inl z))
    · exact z.elim
  gr := fun z => by
    have h1 : lv ≠ [] := fun e => z (h.em e)
    have h2 := h.gr h1
    have h3 : 0 < lt.length := List.length_pos_iff.mpr z
    rw [List.length_nil]
    omega
  em := fun _ => rfl
  ll := Nat.zero_le _
theorem Lev.start (h0 : p0 < A.length) (h1 : q0 < B.length) : Lev m A gA p0 B gB q0 0 [([], p0, q0)] [([], p0, q0)] [] [(p0, q0)] fun _ => False where
  nd := by simp
  rng := fun pr hpr => by rw [List.mem_singleton.mp hpr]; exact ⟨h0, h1⟩
  st := List.mem_singleton.mpr rfl
  lvo := fun it hi => by
    rw [List.mem_singleton.mp hi]
    exact ⟨by simp, rfl, rfl, rfl, List.mem_singleton.mpr rfl⟩
  lto := fun it hi => by cases hi
  dn := fun pr hpr => .inl ⟨_, List.mem_singleton.mpr rfl, (List.mem_singleton.mp hpr).symm⟩
  gr := fun _ => by simp
  em := fun z => by cases z
  ll := Nat.zero_le _
/-- all is gone through -/
theorem Lev.lang (h : Lev m A gA p0 B gB q0 k lv lv [] prs fun _ => False) (e : lv = []) : LangEq m A gA p0 B gB q0 := fun w hw => dn_all (prs := prs) (fun pr hpr => by
  rcases h.dn pr hpr with ⟨i, hi, _⟩ | ⟨i, hi, _⟩ | z | z
  · rw [e] at hi; cases hi
  · cases hi
  · exact z
  · exact z.elim) w (p0, q0) h.st hw
end
end U
namespace U
theorem Canon.at_lt {m : Nat} {rs : Rws} {gd : List Nat} (c : Canon m rs gd) {i : Nat} (hi : i < rs.length) : i < (scanAt rs i).length := by
  refine Classical.byContradiction fun hn => ?_
  have h1 := scan_full (rs := rs) (Nat.le_of_not_lt hn) (Nat.le_of_lt hi)
  have h2 := congrArg List.length h1
  rw [c.ord, List.length_range] at h2
  omega
theorem Canon.at {m : Nat} {rs : Rws} {gd : List Nat} (c : Canon m rs gd) {i : Nat} (hi : i < rs.length) : (scanAt rs i)[i]? = some i := by
  obtain ⟨r, hr⟩ : ∃ r, (scanAt rs i)[i]? = some r := ⟨_, List.getElem?_eq_getElem (c.at_lt hi)⟩
  obtain ⟨l, e⟩ := scan_mono (rs := rs) i (rs.length - i)
  rw [show i + (rs.length - i) = rs.length by omega, c.ord] at e
  have h := List.getElem?_range hi
  rw [e, List.getElem?_append_left (c.at_lt hi), hr] at h
  rw [hr, h]
end U
namespace U
theorem rel_lang {m : Nat} {A : Rws} {g : List Nat} {B : Rws} {g' : List Nat} (R : Nat → Nat → Prop) (hg : ∀ x y, R x y → (x ∈ g ↔ y ∈ g')) (hs : ∀ x y a, R x y → a < m → R (stp A x a) (stp B y a)) : ∀ {p q : Nat}, R p q → LangEq m A g p B g' q := fun {p q} h w => by
  induction w generalizing p q with
  | nil => exact fun _ => hg _ _ h
  | cons a w ih => exact fun hw => ih (hs _ _ a h (hw a (List.mem_cons_self ..))) fun b hb => hw b (List.mem_cons_of_mem _ hb)
theorem ins_mem {α : Type} {l : List α} {x y : α} {i : Nat} : y ∈ l.take i ++ [x] ++ l.drop i ↔ y ∈ l ∨ y = x := by
  have e : y ∈ l ↔ y ∈ l.take i ∨ y ∈ l.drop i := by
    conv => lhs; rw [← List.take_append_drop i l]
    rw [List.mem_append]
  rw [e, List.mem_append, List.mem_append, List.mem_singleton]
  constructor
  · rintro ((h | h) | h)
    · exact .inl (.inl h)
    · exact .inr h
    · exact .inl (.inr h)
  · rintro ((h | h) | h)
    · exact .inl (.inl h)
    · exact .inr h
    · exact .inl (.inr h)
theorem ins_len {α : Type} {l : List α} {x : α} {i : Nat} : (l.take i ++ [x] ++ l.drop i).length = l.length + 1 := by
  rw [List.length_append, List.length_append, List.length_take, List.length_drop, List.length_singleton]
  omega
theorem ins_0 {α : Type} {l : List α} {x y : α} {i : Nat} (hi : 1 ≤ i) (h : l[0]? = some y) : (l.take i ++ [x] ++ l.drop i)[0]? = some y := by
  obtain ⟨h1, h2⟩ := List.getElem?_eq_some_iff.mp h
  have h3 : 0 < (l.take i).length := by rw [List.length_take]; omega
  rw [List.append_assoc, List.getElem?_append_left h3, List.getElem?_take]
  rw [if_pos (by omega)]
  exact h
theorem sum_take {l : List Nat} {i c : Nat} (h : l[i]? = some c) : (l.take (i + 1)).sum = (l.take i).sum + c := by
  rw [take_at h, List.sum_append]
  simp
theorem sum_pos {l : List Nat} (h : ∀ c ∈ l, 1 ≤ c) : l.length ≤ l.sum := by
  induction l with
  | nil => simp
  | cons a l ih =>
    have := h a (List.mem_cons_self ..)
    have := ih fun c hc => h c (List.mem_cons_of_mem _ hc)
    rw [List.length_cons, List.sum_cons]
    omega
end U
namespace U
open PySem PySem.Spec PyProof.Rows L2
theorem firstMet_dd {ns : List Int} : ∀ i, i ≤ ns.length → PyProof.Rows.firstMet (fun i => ns.getD i 0) i = dd (ns.take i)
  | 0, _ => rfl
  | i + 1, hi => by
    have hlt : i < ns.length := hi
    have e1 : ns.getD i 0 = ns[i] := by
      rw [List.getD_eq_getElem?_getD, List.getElem?_eq_getElem hlt] <;> rfl
    have e2 : ns.take (i + 1) = ns.take i ++ [ns[i]] := take_at (List.getElem?_eq_getElem hlt)
    rw [PyProof.Rows.firstMet_succ, firstMet_dd i (Nat.le_of_lt hlt), e2, dd_snoc]
    show (if (dd (ns.take i)).any (· == ns.getD i 0) then dd (ns.take i) else dd (ns.take i) ++ [ns.getD i 0]) = addN (dd (ns.take i)) ns[i]
    rw [e1]
    unfold addN
    by_cases h : ns[i] ∈ dd (ns.take i)
    · rw [if_pos h, if_pos (List.any_eq_true.mpr ⟨ns[i], h, by simp⟩)]
    · rw [if_neg h, if_neg (fun z => h (by
        obtain ⟨y, hy, e⟩ := List.any_eq_true.mp z
        rw [beq_iff_eq] at e
        rw [← e]
        exact hy))]
def tLenSetG (K : PySem.W.Frag) (ta : TE) : TE := fun σ H Q => ta σ H fun x H1 => ∃ (l : Addr) (ns : List Int), x = .ref l ∧ SqL K H1 l (ns.map V.int) ∧ ns.length ≤ 4000 ∧ Q (.int ((dd ns).length : Nat)) H1
theorem pe_lenSetG {X : Cx} {a : Expr} {ta : TE} {p p2 q pos : Pos} (hg : Gl X "len") (hm : X.mg "len" = none) (hg2 : Gl X "set") (hm2 : X.mg "set" = none) (ha : PE X a ta) (hc : X.calm = true := by rfl)
    (na : starEach [a] X.env = (false, eval a X.env) :: starEach [] X.env := by rfl) : PE X (.Call (.Name "len" p) [.Call (.Name "set" p2) [a] [] q] [] pos) (tLenSetG X.K ta) := by
  refine ⟨fun pins s σ H Q I h => ?_⟩
  refine Call_ (ld_blt I hg hm boot_len ?_)
  refine PyProof.Rows.callWith_builtin1 (PyProof.Rows.args_cons ?_ rfl) rfl rfl
  refine Call_ (ld_blt I hg2 hm2 boot_set ?_)
  refine PyProof.Rows.callWith_type1 (PyProof.Rows.args_cons (thn (ha.run pins s σ H _ I h) fun v s1 ⟨x, H1, I1, r1, q1⟩ => PyProof.Rows.args_nil ?_) na) na rfl
  obtain ⟨l, ns, rfl, hq, hl, q1⟩ := q1
  cases r1
  obtain ⟨its, r, pl, hz⟩ := I1.list hq
  have hlen : its.toArray.size = ns.length := by rw [List.size_toArray, ← r.length, List.length_map]
  refine call_set_list (I1.ok.hd hc) pl.isList (by simpa using RZ.intsAre_vals r) (by rw [hlen]; unfold scanBound; omega) fun h' tk hS hk => ?_
  refine PyProof.Rows.args_nil ?_
  rw [hlen, firstMet_dd ns.length (Nat.le_refl _), List.take_length] at hS
  have hdl := len_dd ns
  obtain ⟨o, es, ep, t, ho, hex, hd, _, _, _, hf, hn⟩ := hS
  have I2 : Inv X pins σ H1 { s1 with heap := h', toks := tk } := I1.kept fun b o e => hk b o (Heap.lt_size e) e
  exact call_len_set ho hex hd hf (by rw [hn] <;> omega) ⟨.int (dd ns).length, H1, I2.tok _, ⟨_, by rw [hn]⟩, q1⟩
theorem i_lenSetG {K : PySem.W.Frag} {ta : TE} {σ : L2.St} {H : Hp} {Q : VK} (q : ta σ H fun x H1 => ∃ (l : Addr) (ns : List Int), x = .ref l ∧ SqL K H1 l (ns.map V.int) ∧ ns.length ≤ 4000 ∧ Q (.int ((dd ns).length : Nat)) H1) : tLenSetG K ta σ H Q := q
theorem dd_map_inj {α β : Type} [DecidableEq α] [DecidableEq β] {f : α → β} (hf : ∀ x y, f x = f y → x = y) (l : List α) : dd (l.map f) = (dd l).map f := by
  induction l using rev_ind with
  | h0 => rfl
  | hs l x ih =>
    rw [List.map_append, List.map_singleton, dd_snoc, dd_snoc, ih]
    unfold addN
    have e : f x ∈ (dd l).map f ↔ x ∈ dd l := ⟨fun h => by
      obtain ⟨y, hy, e⟩ := List.mem_map.mp h
      rw [← hf _ _ e]
      exact hy, fun h => List.mem_map.mpr ⟨x, h, rfl⟩⟩
    by_cases h : x ∈ dd l
    · rw [if_pos h, if_pos (e.mpr h)]
    · rw [if_neg h, if_neg (fun z => h (e.mp z)), List.map_append]
      rfl
end U
namespace U
open PySem PySem.Spec PyProof.Rows L2
theorem lenSetK {X : Cx} (K : PySem.W.Frag) (h : X.K = K) {a : Expr} {ta : TE} {p p2 q pos : Pos} (hg : Gl X "len") (hm : X.mg "len" = none) (hg2 : Gl X "set") (hm2 : X.mg "set" = none) (ha : PE X a ta) (hc : X.calm = true := by rfl)
    (na : starEach [a] X.env = (false, eval a X.env) :: starEach [] X.env := by rfl) : PE X (.Call (.Name "len" p) [.Call (.Name "set" p2) [a] [] q] [] pos) (tLenSetG K ta) := by
  subst h
  exact pe_lenSetG hg hm hg2 hm2 ha hc na
end U
namespace U
open PySem PySem.Spec PyProof.Rows L2
theorem Mach.weak {T T' : AS} {H : Hp} {p : Addr} {rs : Rws} {gd : List Nat} (h : Mach T H p rs gd) (i : ∀ b, T' b → T b) : Mach T' H p rs gd :=
  let ⟨h1, pm, pg, h2, h3, h4⟩ := h; ⟨fun z => h1 (i _ z), pm, pg, h2, h3.weak i, h4.weak i⟩
theorem Rd.weak {C : Addr} {T T' : AS} {H : Hp} {p : Addr} {al : List Nat} {rs : Rws} {gd : List Nat} (h : Rd C T H p al rs gd) (i : ∀ b, T' b → T b) : Rd C T' H p al rs gd :=
  let ⟨h1, dx, pm, pg, h2, h3, h4⟩ := h; ⟨fun z => h1 (i _ z), dx, pm, pg, h2, h3.weak i, h4.weak i⟩
theorem S_cons (c : Nat) (z : List Nat) : (⟨#[c]⟩ : Str) ++ SX.S z = SX.S (c :: z) := SX.S_cat [c] z
theorem Word.cons {al w z : List Nat} {x : Nat} (h : Word al w z) (hx : x < al.length) : Word al (x :: w) (al.getD x 0 :: z) := ⟨fun a ha => by
  rcases List.mem_cons.mp ha with e | e
  · rw [e]; exact hx
  · exact h.1 a e, by rw [List.map_cons, h.2]⟩
theorem Word.snoc {al w z : List Nat} {x : Nat} (h : Word al w z) (hx : x < al.length) : Word al (w ++ [x]) (z ++ [al.getD x 0]) := ⟨fun a ha => by
  rcases List.mem_append.mp ha with e | e
  · exact h.1 a e
  · rw [List.mem_singleton.mp e]; exact hx, by rw [List.map_append, h.2]; rfl⟩
theorem Word.app {al w z w' z' : List Nat} (h : Word al w z) (h' : Word al w' z') : Word al (w ++ w') (z ++ z') := ⟨fun a ha => by
  rcases List.mem_append.mp ha with e | e
  · exact h.1 a e
  · exact h'.1 a e, by rw [List.map_append, h.2, h'.2]⟩
end U
namespace U
open PySem PySem.Spec PyProof.Rows L2
def pk (pr : Nat × Nat) : NestedKey := .tup [nkN pr.1, nkN pr.2]
theorem pk_inj {a b : Nat × Nat} (h : pk a = pk b) : a = b := by
  unfold pk at h
  injection h with h
  rw [List.cons.injEq, List.cons.injEq] at h
  exact Prod.ext (nkN_inj h.1) (nkN_inj h.2.1)
theorem pk_mem {a : Nat × Nat} {l : List (Nat × Nat)} : pk a ∈ l.map pk ↔ a ∈ l := ⟨fun h => by
  obtain ⟨b, hb, e⟩ := List.mem_map.mp h
  rw [← pk_inj e]
  exact hb, fun h => List.mem_map.mpr ⟨a, h, rfl⟩⟩
def Prs (H : Hp) (bs : List Addr) (prs : List (Nat × Nat)) : Prop := Paired (fun a (pr : Nat × Nat) => H a = some (.tup [vn pr.1, vn pr.2])) bs prs
theorem Prs.same {H H' : Hp} {bs : List Addr} {prs : List (Nat × Nat)} (h : Prs H bs prs) (s : Same H H') : Prs H' bs prs := Paired.mapP h fun _ _ z => s _ _ z
theorem Prs.upd {H : Hp} {bs : List Addr} {prs : List (Nat × Nat)} {D : Addr} {o : HO} (h : Prs H bs prs) (n : ∀ vs, H D ≠ some (.tup vs)) : Prs (upd H D o) bs prs := Paired.mapP h fun a _ z => by
  rw [upd_ne (fun e => n _ (by rw [← e]; exact z))]
  exact z
theorem pairs_len {prs : List (Nat × Nat)} {n k : Nat} (hn : prs.Nodup) (h : ∀ pr ∈ prs, pr.1 < n ∧ pr.2 < k) : prs.length ≤ n * k := by
  have inj : ∀ a ∈ prs, ∀ b ∈ prs, a.1 * k + a.2 = b.1 * k + b.2 → a = b := fun a ha b hb e => by
    have h1 := (h a ha).2
    have h2 := (h b hb).2
    have hk : 0 < k := by omega
    have e1 : (a.1 * k + a.2) / k = a.1 := by rw [Nat.add_comm, Nat.add_mul_div_right _ _ hk, Nat.div_eq_of_lt h1, Nat.zero_add]
    have e2 : (b.1 * k + b.2) / k = b.1 := by rw [Nat.add_comm, Nat.add_mul_div_right _ _ hk, Nat.div_eq_of_lt h2, Nat.zero_add]
    have e3 : a.1 = b.1 := by rw [← e1, ← e2, e]
    rw [e3] at e
    exact Prod.ext e3 (by omega)
  have z : (prs.map fun pr => pr.1 * k + pr.2).Nodup := by
    clear h
    induction prs with
    | nil => exact List.nodup_nil
    | cons a l ih =>
      obtain ⟨h1, h2⟩ := List.nodup_cons.mp hn
      rw [List.map_cons, List.nodup_cons]
      refine ⟨fun hm => ?_, ih h2 fun x hx y hy => inj x (List.mem_cons_of_mem _ hx) y (List.mem_cons_of_mem _ hy)⟩
      obtain ⟨b, hb, e⟩ := List.mem_map.mp hm
      have := inj b (List.mem_cons_of_mem _ hb) a (List.mem_cons_self ..) e
      exact h1 (by rw [← this]; exact hb)
  have z2 := nodup_le z fun x hx => by
    obtain ⟨pr, hpr, rfl⟩ := List.mem_map.mp hx
    obtain ⟨h1, h2⟩ := h pr hpr
    have := Nat.mul_le_mul_right k (show pr.1 + 1 ≤ n from h1)
    rw [Nat.add_mul, Nat.one_mul] at this
    show pr.1 * k + pr.2 < n * k
    omega
  rwa [List.length_map] at z2
theorem RDispN {P : Program} {w : World} {σ : L2.St} {H : Hp} {Q : VK} {tk tv : TE} (q : ∀ p o, H p = none → NDict P w (upd H p o) p [] → tk σ (upd H p o) fun y H1 => tv σ H1 fun v H2 => ∃ k, KeyAt H2 k y ∧ NDict P w H2 p [] ∧ ∀ o', NDict P w (upd H2 p o') p [(k, v)] → Q (.ref p) (upd H2 p o')) : tDisp1N P w tk tv σ H Q := q
end U
namespace U
open PySem PySem.Spec PyProof.Rows L2
theorem i_break {D : Ends} {σ : L2.St} {H : Hp} (q : D.bk σ H) : tBreak D σ H := q
end U
namespace U
open PySem PySem.Spec PyProof.Rows L2
def LvAt (H : Hp) (al : List Nat) (ls : List Addr) (lv : List It) : Prop := Paired (fun a (it : It) => H a = some (.tup [.str (SX.S (it.1.map fun x => al.getD x 0)), vn it.2.1, vn it.2.2])) ls lv
theorem LvAt.same {H H' : Hp} {al : List Nat} {ls : List Addr} {lv : List It} (h : LvAt H al ls lv) (s : Same H H') : LvAt H' al ls lv := Paired.mapP h fun _ _ z => s _ _ z
theorem LvAt.upd {H : Hp} {al : List Nat} {ls : List Addr} {lv : List It} {D : Addr} {o : HO} (h : LvAt H al ls lv) (n : ∀ vs, H D ≠ some (.tup vs)) : LvAt (upd H D o) al ls lv := Paired.mapP h fun a _ z => by
  rw [upd_ne (fun e => n _ (by rw [← e]; exact z))]
  exact z
end U
namespace U
open PySem PySem.Spec PyProof.Rows L2
abbrev Plc := Option Nat × Nat
def fI : Option Nat → Int
  | none => -1
  | some p => (p : Int)
theorem fI_inj {a b : Option Nat} (h : fI a = fI b) : a = b := by
  cases a with
  | none => cases b with
    | none => rfl
    | some q => simp only [fI] at h; omega
  | some p => cases b with
    | none => simp only [fI] at h; omega
    | some q => simp only [fI] at h; congr; omega
def PlAt (H : Hp) (as : List Addr) (ps : List Plc) : Prop := Paired (fun a (p : Plc) => H a = some (.tup [.int (fI p.1), vn p.2])) as ps
theorem PlAt.kp {T : AS} {H H' : Hp} {as : List Addr} {ps : List Plc} (h : PlAt H as ps) (k : Kp T H H') (n : ∀ a vs, H a = some (.tup vs) → ¬ T a) : PlAt H' as ps := Paired.mapP h fun a _ z => k _ _ (n a _ z) z
theorem PlAt.ev {S : AS} {H H' : Hp} {as : List Addr} {ps : List Plc} (hS : Srcs S H) (h : PlAt H as ps) (e : Ev S H H') : PlAt H' as ps := h.kp e.kp fun _ _ z => hS.nottup z
theorem PlAt.upd {H : Hp} {as : List Addr} {ps : List Plc} {D : Addr} {o : HO} (h : PlAt H as ps) (n : ∀ vs, H D ≠ some (.tup vs)) : PlAt (upd H D o) as ps := Paired.mapP h fun a _ z => by
  rw [upd_ne (fun e => n _ (by rw [← e]; exact z))]
  exact z
theorem PlAt.ins {H : Hp} {as : List Addr} {ps : List Plc} {a : Addr} {p : Plc} (h : PlAt H as ps) (ha : H a = some (.tup [.int (fI p.1), vn p.2])) (i : Nat) : PlAt H (as.take i ++ [a] ++ as.drop i) (ps.take i ++ [p] ++ ps.drop i) := by
  have h1 : ∀ {xs : List Addr} {ys : List Plc} (j : Nat), PlAt H xs ys → PlAt H (xs.take j) (ys.take j) := fun {xs ys} j hh => by
    induction hh generalizing j with
    | nil => simp; exact .nil
    | cons r t ih => cases j with
      | zero => exact .nil
      | succ j => exact .cons r (ih j)
  have h2 : ∀ {xs : List Addr} {ys : List Plc} (j : Nat), PlAt H xs ys → PlAt H (xs.drop j) (ys.drop j) := fun {xs ys} j hh => by
    induction hh generalizing j with
    | nil => simp; exact .nil
    | cons r t ih => cases j with
      | zero => exact .cons r t
      | succ j => exact ih j
  have h3 : ∀ {xs : List Addr} {ys : List Plc} {us : List Addr} {ws : List Plc}, PlAt H xs ys → PlAt H us ws → PlAt H (xs ++ us) (ys ++ ws) := fun {xs ys us ws} hx hu => by
    induction hx with
    | nil => exact hu
    | cons r t ih => exact .cons r ih
  exact h3 (h3 (h1 i h) (.cons ha .nil)) (h2 i h)
def dPl (p : Plc) : PyData := .tuple [.int (fI p.1), .int (p.2 : Int)]
theorem dPl_eqv (a b : Plc) : PyData.eqv (dPl a) (dPl b) = decide (a = b) := by
  unfold dPl
  rw [PyData.eqv, PyData.eqvAll, PyData.eqvAll, PyData.eqvAll, PyData.eqv, PyData.eqv, Bool.and_true]
  by_cases h : a = b
  · subst h; simp
  · rw [decide_eq_false h]
    refine Bool.eq_false_iff.mpr fun z => h ?_
    rw [Bool.and_eq_true, beq_iff_eq, beq_iff_eq] at z
    exact Prod.ext (fI_inj z.1) (by omega)
theorem dPl_lay : ∀ ps : List Plc, PyData.canLayAll0 (ps.map dPl) = true ∧ PyData.depthAll (ps.map dPl) ≤ 1
  | [] => by simp [PyData.canLayAll0, PyData.depthAll]
  | p :: ps => by
    have h := dPl_lay ps
    rw [List.map_cons, PyData.canLayAll0, PyData.depthAll, h.1]
    simp only [dPl, PyData.canLay0, PyData.canLayAll0, PyData.depth, PyData.depthAll]
    exact ⟨rfl, Nat.max_le.mpr ⟨by decide, h.2⟩⟩
theorem PlAt.dp {K : PySem.W.Frag} {H : Hp} : ∀ {as : List Addr} {ps : List Plc}, PlAt H as ps → DpAll K H (as.map V.ref) (ps.map dPl)
  | _, _, .nil => .nil
  | _, _, .cons h t => .cons (.tup (SqT.of h) (.cons (.int _) (.cons (.int _) .nil))) (PlAt.dp t)
theorem pl_first {α : Type} [DecidableEq α] {l : List α} {x y : α} {j : Nat} (h : j < pl l x) (hy : l[j]? = some y) : y ≠ x := fun e => by
  obtain ⟨h1, h2⟩ := List.getElem?_eq_some_iff.mp hy
  unfold pl List.idxOf at h
  have h3 := List.not_of_lt_findIdx h
  simp [h2, e] at h3
theorem i_plIdx {K : PySem.W.Frag} {H : Hp} {Q : VK} {l y : Addr} {as : List Addr} {ps : List Plc} {p : Plc} (hl : H l = some (.lst (as.map V.ref))) (hp : PlAt H as ps) (hy : H y = some (.tup [.int (fI p.1), vn p.2])) (hm : p ∈ ps) (q : Q (vn (pl ps p)) H) : rIndexD K (.ref l) [.ref y] H Q := by
  have sh : SeqAt.shaped (.list (ps.map dPl)) = true := by
    have h := dPl_lay ps
    unfold SeqAt.shaped
    rw [PyData.canLay0, PyData.depth, h.1, Bool.true_and]
    exact decide_eq_true (by omega)
  have sp : SeqAt.shaped (dPl p) = true := by
    unfold SeqAt.shaped
    simp only [dPl, PyData.canLay0, PyData.canLayAll0, PyData.depth, PyData.depthAll]
    decide
  refine ⟨l, .ref y, dPl p, ps.map dPl, pl ps p, dPl p, rfl, rfl, .lst (SqL.of hl) hp.dp, .tup (SqT.of hy) (.cons (.int _) (.cons (.int _) .nil)), sh, sp, map_at' (f := dPl) (pl_at hm), by rw [dPl_eqv, decide_eq_true rfl], fun m' z' hm' hz' => ?_, q⟩
  obtain ⟨p', hp', rfl⟩ : ∃ p', ps[m']? = some p' ∧ z' = dPl p' := by
    rw [List.getElem?_map] at hz'
    cases e : ps[m']? with
    | none => rw [e] at hz'; cases hz'
    | some x => rw [e] at hz'; exact ⟨x, rfl, (Option.some.inj hz').symm⟩
  rw [dPl_eqv]
  refine decide_eq_false fun e => ?_
  rw [e] at hp'
  exact pl_first hm' hp' rfl
def rIdxD (K : PySem.W.Frag) : V → List V → Hp → VK → Prop := rIndexD K
def rInsert : V → List V → Hp → VK → Prop := fun x vs H Q => ∃ (l : Addr) (xs : List V) (i : Int) (y : V), x = .ref l ∧ vs = [.int i, y] ∧ H l = some (.lst xs) ∧ xs.length < sizeLine ∧ 0 ≤ i ∧ i < 2 ^ 63 ∧
    Q .non (upd H l (.lst (xs.take i.toNat ++ [y] ++ xs.drop i.toNat)))
theorem mt_insertR {X : Cx} : MtR X "list.insert" rInsert := mt_insert
theorem i_insert {l : Addr} {xs : List V} {i : Nat} {y : V} {H : Hp} {Q : VK} (h : H l = some (.lst xs)) (hl : xs.length < 16777216) (hi : i < 2 ^ 62) (q : Q .non (upd H l (.lst (xs.take i ++ [y] ++ xs.drop i)))) : rInsert (.ref l) [.int (i : Int), y] H Q := ⟨l, xs, i, y, rfl, rfl, h, szlt hl, by omega, by omega, by rw [Int.toNat_natCast]; exact q⟩
end U
namespace U
open PySem PySem.Spec PyProof.Rows L2
theorem units65 {k : Nat} {A : Around} (r : Room k A) : A.units + 65 < cLine := by
  have := r.un
  omega
theorem mt_indexDK {X : Cx} (K : PySem.W.Frag) (h : X.K = K) (hu : X.A.units + 65 < cLine) : MtR X "list.index" (rIndexD K) := by
  subst h
  exact mt_indexD hu
end U
namespace U
open PySem PySem.Spec PyProof.Rows L2
theorem inV_neg : ∀ ns : List Nat, inV (.int (-1)) (ns.map vn) = false
  | [] => rfl
  | a :: ns => by
    have ih := inV_neg ns
    unfold inV at ih ⊢
    rw [List.map_cons, List.any_cons, ih, Bool.or_false]
    show ((a : Int) == (-1 : Int)) = false
    rw [beq_eq_false_iff_ne]
    omega
theorem i_inNeg {K : PySem.W.Frag} {H : Hp} {Q : VK} {p : Addr} {t : Bool} {ns : List Nat} (h : H p = some (sq t (ns.map vn))) (q : Q (.bl false) H) : rIn K false (.int (-1)) (.ref p) H Q := by
  refine ⟨p, ns.map vn, rfl, ?_, rfl, flat_ints ns, ?_⟩
  · cases t with
    | false => exact .inl (SqL.of h)
    | true => exact .inr (SqT.of h)
  · rw [inV_neg ns]
    exact q
end U
namespace U
open PySem PySem.Spec PyProof.Rows L2
section
variable {C : Addr} {T : AS} {H : Hp} {p D : Addr} {al : List Nat} {rs : Rws} {gd ns : List Nat} {o : HO}
theorem IntsT.upd (h : IntsT T H p ns) (n : ∀ vs, H D ≠ some (.tup vs)) : IntsT T (upd H D o) p ns := ⟨h.1, by
  rw [upd_ne (fun e => n _ (by rw [← e]; exact h.2))]
  exact h.2⟩
theorem RowsT.upd (h : RowsT T H p rs) (n : ∀ vs, H D ≠ some (.tup vs)) : RowsT T (upd H D o) p rs := by
  obtain ⟨h1, as, h2, h3⟩ := h
  refine ⟨h1, as, ?_, Paired.mapP h3 fun _ _ z => z.upd n⟩
  rw [upd_ne (fun e => n _ (by rw [← e]; exact h2))]
  exact h2
theorem Rd.upd (h : Rd C T H p al rs gd) (n : ∀ vs, H D ≠ some (.tup vs)) (n2 : ∀ C dx fs, H D ≠ some (.ins C dx fs)) : Rd C T (upd H D o) p al rs gd := by
  obtain ⟨h1, dx, pm, pg, h2, h3, h4⟩ := h
  refine ⟨h1, dx, pm, pg, ?_, h3.upd n, h4.upd n⟩
  rw [upd_ne (fun e => n2 _ _ _ (by rw [← e]; exact h2))]
  exact h2
end
/-- a form: rows and good rooms as data -/
def Frm (H : Hp) (p : Addr) (rs : Rws) (gd : List Nat) : Prop := ∃ pm pg, H p = some (.tup [.ref pm, .ref pg]) ∧ RowsT (fun _ => False) H pm rs ∧ IntsT (fun _ => False) H pg gd
theorem Frm.same {H H' : Hp} {p : Addr} {rs : Rws} {gd : List Nat} (h : Frm H p rs gd) (s : Same H H') : Frm H' p rs gd := let ⟨pm, pg, h1, h2, h3⟩ := h; ⟨pm, pg, s _ _ h1, h2.same s, h3.same s⟩
theorem Frm.ev {S : AS} {H H' : Hp} {p : Addr} {rs : Rws} {gd : List Nat} (h : Frm H p rs gd) (hS : Srcs S H) (e : Ev S H H') : Frm H' p rs gd := by
  obtain ⟨pm, pg, h1, ⟨_, as, h2, h3⟩, _, h4⟩ := h
  exact ⟨pm, pg, e.at (hS.nottup h1) h1, ⟨fun z => z, as, e.at (hS.nottup h2) h2, Paired.mapP h3 fun _ _ z => ⟨fun z => z, e.at (hS.nottup z.2) z.2⟩⟩, fun z => z, e.at (hS.nottup h4) h4⟩
def dFrm (rs : Rws) (gd : List Nat) : PyData := .tuple [dRows rs, dInts gd]
theorem Frm.dp {K : PySem.W.Frag} {H : Hp} {p : Addr} {rs : Rws} {gd : List Nat} (h : Frm H p rs gd) : Dp K H (.ref p) (dFrm rs gd) := by
  obtain ⟨pm, pg, h1, h2, h3⟩ := h
  exact .tup (SqT.of h1) (.cons h2.dp (.cons h3.dp .nil))
theorem eqv_dFrm (a b : Rws) (g h : List Nat) : PyData.eqv (dFrm a g) (dFrm b h) = decide (a = b ∧ g = h) := by
  unfold dFrm
  rw [PyData.eqv, PyData.eqvAll, PyData.eqvAll, PyData.eqvAll, eqv_dRows, eqv_dInts, Bool.and_true]
  by_cases h1 : a = b <;> by_cases h2 : g = h <;> simp [h1, h2]
theorem shaped_dFrm (a : Rws) (g : List Nat) : SeqAt.shaped (dFrm a g) = true := by
  have h1 := lay_rows a
  have h2 := lay_ints g
  unfold SeqAt.shaped dFrm
  simp only [dRows, dInts, PyData.canLay0, PyData.canLayAll0, PyData.depth, PyData.depthAll, h1.1, h2.1, h2.2, Bool.true_and, Bool.and_true]
  have h3 : (PyData.canLayAll0 (List.map dInts a)) = true := h1.1
  have h4 : (PyData.depthAll (List.map dInts a)) ≤ 1 := h1.2
  exact decide_eq_true (by omega)
section
variable {K : PySem.W.Frag} {H : Hp} {p q : Addr} {a b : Rws} {g h : List Nat} {Q : VK}
theorem i_eqFrm (h1 : Frm H p a g) (h2 : Frm H q b h) (k : Q (.bl (decide (a = b ∧ g = h))) H) : rEqD K (.ref p) (.ref q) H Q := ⟨_, _, h1.dp, h2.dp, shaped_dFrm _ _, shaped_dFrm _ _, by rw [eqv_dFrm]; exact k⟩
theorem i_neFrm (h1 : Frm H p a g) (h2 : Frm H q b h) (k : Q (.bl (!decide (a = b ∧ g = h))) H) : rNeD K (.ref p) (.ref q) H Q := ⟨_, _, h1.dp, h2.dp, shaped_dFrm _ _, shaped_dFrm _ _, by rw [eqv_dFrm]; exact k⟩
end
end U
namespace U
open PySem PySem.Spec PyProof.Rows L2
theorem Frm.upd {H : Hp} {p D : Addr} {o : HO} {rs : Rws} {gd : List Nat} (h : Frm H p rs gd) (n : ∀ vs, H D ≠ some (.tup vs)) : Frm (upd H D o) p rs gd := by
  obtain ⟨pm, pg, h1, h2, h3⟩ := h
  refine ⟨pm, pg, ?_, h2.upd n, h3.upd n⟩
  rw [upd_ne (fun e => n _ (by rw [← e]; exact h1))]
  exact h1
end U
namespace U
open PySem
section
variable {m : Nat} {rs : Rws} {mk : Nat → Bool} {o : List Nat}
/-- all that the rooms of o lead to is in o -/
structure Cl (m : Nat) (rs : Rws) (o : List Nat) : Prop where
  lt : ∀ r ∈ o, r < rs.length
  cl : ∀ r ∈ o, ∀ t ∈ row rs r, t ∈ o
theorem Cl.stp (w : WFB m rs) (c : Cl m rs o) {r a : Nat} (hr : r ∈ o) (ha : a < m) : stp rs r a ∈ o := c.cl r hr _ (List.mem_of_getElem? (w.stp_at (c.lt r hr) ha))
theorem sigA_fst {k p q : Nat} (h : sigA rs mk o (k + 1) p = sigA rs mk o (k + 1) q) : clsA rs mk o k p = clsA rs mk o k q := by
  simp only [sigA] at h
  injection h with h
  rw [List.cons.injEq] at h
  exact nkN_inj h.1
theorem sigA_snd {k p q : Nat} (h : sigA rs mk o (k + 1) p = sigA rs mk o (k + 1) q) : (row rs p).map (clsA rs mk o k) = (row rs q).map (clsA rs mk o k) := by
  simp only [sigA] at h
  injection h with h
  rw [List.cons.injEq, List.cons.injEq] at h
  have h2 := h.2.1
  injection h2 with h2
  have e : ∀ r : Nat, (row rs r).map (fun t => nkN (clsA rs mk o k t)) = ((row rs r).map (clsA rs mk o k)).map nkN := fun r => by rw [List.map_map]; rfl
  rw [e, e] at h2
  exact nk_map_inj h2
theorem clsA_sig {k p q : Nat} (hp : p ∈ o) (hq : q ∈ o) (h : clsA rs mk o k p = clsA rs mk o k q) : sigA rs mk o k p = sigA rs mk o k q := by
  rw [clsA_eq, clsA_eq] at h
  exact num_inj hp hq h
theorem sig_clsA {k p q : Nat} (h : sigA rs mk o k p = sigA rs mk o k q) : clsA rs mk o k p = clsA rs mk o k q := by
  rw [clsA_eq, clsA_eq]
  unfold num
  rw [h]
theorem nkB_inj {a b : Bool} (h : nkB a = nkB b) : a = b := by
  unfold nkB at h
  injection h with h
  cases a <;> cases b <;> simp at h <;> rfl
theorem clsA_mk : ∀ (k : Nat) {p q : Nat}, p ∈ o → q ∈ o → clsA rs mk o k p = clsA rs mk o k q → mk p = mk q
  | 0, p, q, hp, hq, h => by
    have z := clsA_sig hp hq h
    simp only [sigA] at z
    injection z with z
    rw [List.cons.injEq] at z
    exact nkB_inj z.1
  | k + 1, p, q, hp, hq, h => clsA_mk k hp hq (sigA_fst (clsA_sig hp hq h))
/-- same texts, same class -/
theorem lang_clsA {gd : List Nat} (w : WFB m rs) (c : Cl m rs o) (hmk : mk = fun r => decide (r ∈ gd)) : ∀ (k : Nat) {p q : Nat}, p ∈ o → q ∈ o → LangEq m rs gd p rs gd q → sigA rs mk o k p = sigA rs mk o k q
  | 0, p, q, hp, hq, h => by
    simp only [sigA]
    have : mk p = mk q := by
      rw [hmk]
      exact decide_eq_decide.mpr h.here
    rw [this]
  | k + 1, p, q, hp, hq, h => by
    have h1 := sig_clsA (lang_clsA w c hmk k hp hq h)
    have h2 : (row rs p).map (fun t => nkN (clsA rs mk o k t)) = (row rs q).map (fun t => nkN (clsA rs mk o k t)) := by
      refine List.ext_getElem (by rw [List.length_map, List.length_map, w.row_len (c.lt p hp), w.row_len (c.lt q hq)]) fun a ha1 ha2 => ?_
      rw [List.length_map, w.row_len (c.lt p hp)] at ha1
      rw [List.getElem_map, List.getElem_map]
      have e1 : (row rs p)[a]'(by rw [w.row_len (c.lt p hp)]; exact ha1) = stp rs p a := by
        have := w.stp_at (c.lt p hp) ha1
        exact (List.getElem?_eq_some_iff.mp this).2
      have e2 : (row rs q)[a]'(by rw [w.row_len (c.lt q hq)]; exact ha1) = stp rs q a := by
        have := w.stp_at (c.lt q hq) ha1
        exact (List.getElem?_eq_some_iff.mp this).2
      rw [e1, e2, sig_clsA (lang_clsA w c hmk k (c.stp w hp ha1) (c.stp w hq ha1) (h.step ha1))]
    simp only [sigA]
    rw [h1, h2]
/-- where the parting stands still -/
structure Still (rs : Rws) (mk : Nat → Bool) (o : List Nat) (j : Nat) : Prop where
  le : cnt o (sigA rs mk o (j + 1)) ≤ cnt o (sigA rs mk o j)
theorem Still.up {j : Nat} (s : Still rs mk o j) {p q : Nat} (hp : p ∈ o) (hq : q ∈ o) (h : clsA rs mk o j p = clsA rs mk o j q) : sigA rs mk o (j + 1) p = sigA rs mk o (j + 1) q := by
  have e : clsA rs mk o j = num o (sigA rs mk o j) := funext fun r => clsA_eq rs mk o j r
  refine cnt_eq (s := sigA rs mk o (j + 1)) (u := clsA rs mk o j) (rooms := o) (fun _ _ _ _ z => sigA_fst z) ?_ p hp q hq h
  rw [e, cnt_num]
  exact s.le
theorem Still.step {j : Nat} (w : WFB m rs) (c : Cl m rs o) (s : Still rs mk o j) {p q a : Nat} (hp : p ∈ o) (hq : q ∈ o) (ha : a < m) (h : clsA rs mk o j p = clsA rs mk o j q) : clsA rs mk o j (stp rs p a) = clsA rs mk o j (stp rs q a) :=
  map_getD (sigA_snd (s.up hp hq h)) (by rw [w.row_len (c.lt p hp)]; exact ha) (by rw [w.row_len (c.lt q hq)]; exact ha)
theorem Still.lang {gd : List Nat} {j : Nat} (w : WFB m rs) (c : Cl m rs o) (s : Still rs mk o j) (hmk : mk = fun r => decide (r ∈ gd)) {p q : Nat} (hp : p ∈ o) (hq : q ∈ o) (h : clsA rs mk o j p = clsA rs mk o j q) : LangEq m rs gd p rs gd q :=
  rel_lang (fun x y => x ∈ o ∧ y ∈ o ∧ clsA rs mk o j x = clsA rs mk o j y) (fun x y ⟨hx, hy, e⟩ => by
    have := clsA_mk j hx hy e
    rw [hmk] at this
    exact decide_eq_decide.mp this) (fun x y a ⟨hx, hy, e⟩ ha => ⟨c.stp w hx ha, c.stp w hy ha, s.step w c hx hy ha e⟩) ⟨hp, hq, h⟩
/-- the class behind one round more tells the same -/
theorem Still.g {j : Nat} (s : Still rs mk o j) {p q : Nat} (hp : p ∈ o) (hq : q ∈ o) : clsA rs mk o (j + 1) p = clsA rs mk o (j + 1) q ↔ clsA rs mk o j p = clsA rs mk o j q :=
  ⟨fun h => sigA_fst (clsA_sig hp hq h), fun h => sig_clsA (s.up hp hq h)⟩
end
theorem dd_map_addsN {f : Nat → Nat} (l ts : List Nat) : dd ((addsN l ts).map f) = addsN (dd (l.map f)) (ts.map f) := by
  induction ts using rev_ind with
  | h0 => rfl
  | hs ts t ih =>
    rw [addsN_snoc, List.map_append, List.map_singleton, addsN_snoc, ← ih]
    unfold addN
    by_cases h : t ∈ addsN l ts
    · rw [if_pos h, if_pos (mem_dd.mpr (List.mem_map.mpr ⟨t, h, rfl⟩))]
    · rw [if_neg h, List.map_append, List.map_singleton, dd_snoc]
      rfl
theorem dd_of_nodup {α : Type} [DecidableEq α] : ∀ {l : List α}, l.Nodup → dd l = l := fun {l} => by
  induction l using rev_ind with
  | h0 => exact fun _ => rfl
  | hs l x ih =>
    intro h
    rw [List.nodup_append] at h
    rw [dd_snoc, ih h.1, addN, if_neg (fun hx => h.2.2 x hx x (List.mem_singleton.mpr rfl) rfl)]
theorem split_at' {l : List Nat} {i : Nat} {x : Nat} (h : l[i]? = some x) : l = l.take i ++ x :: l.drop (i + 1) := by
  obtain ⟨hi, e⟩ := List.getElem?_eq_some_iff.mp h
  rw [← e, ← List.drop_eq_getElem_cons hi, List.take_append_drop]
theorem dd_app (l k : List Nat) : dd (l ++ k) = addsN (dd l) k := addsN_app [] l k
theorem scan_map {A B : Rws} {f : Nat → Nat} (h0 : f 0 = 0) (hrow : ∀ k, ∀ r ∈ scanAt A k, row B (f r) = (row A r).map f) : ∀ k, dd ((scanAt A k).map f) = scanAt B (dd (((scanAt A k).take k).map f)).length
  | 0 => by
    show dd [f 0] = scanAt B 0
    rw [h0]
    rfl
  | k + 1 => by
    have ih := scan_map h0 hrow k
    by_cases hk : k < (scanAt A k).length
    · obtain ⟨r, hr⟩ : ∃ r, (scanAt A k)[k]? = some r := ⟨_, List.getElem?_eq_getElem hk⟩
      have hrm := List.mem_of_getElem? hr
      have e1 : scanAt A (k + 1) = addsN (scanAt A k) (row A r) := by
        show addsN (scanAt A k) (row A ((scanAt A k).getD k 0)) = _
        rw [List.getD_eq_getElem?_getD, hr]
        rfl
      have e2 : (scanAt A (k + 1)).take (k + 1) = (scanAt A k).take k ++ [r] := by
        obtain ⟨l, e⟩ := scan_step (rs := A) k
        rw [e, List.take_append_of_le_length hk, take_at hr]
      rw [e2, List.map_append, List.map_singleton, dd_snoc, e1, dd_map_addsN]
      by_cases hin : f r ∈ dd (((scanAt A k).take k).map f)
      · rw [addN, if_pos hin, ← ih]
        refine addsN_same fun t ht => ?_
        obtain ⟨u, hu, rfl⟩ := List.mem_map.mp ht
        obtain ⟨r', hr', e⟩ := List.mem_map.mp (mem_dd.mp hin)
        obtain ⟨q, hq⟩ := List.mem_iff_getElem?.mp hr'
        have hq1 : q < k := by
          have := (List.getElem?_eq_some_iff.mp hq).1
          rw [List.length_take] at this
          omega
        rw [List.getElem?_take, if_pos hq1] at hq
        have hm : f u ∈ (row A r').map f := by
          rw [← hrow k r' (List.mem_of_getElem? hq), e, hrow k r hrm]
          exact List.mem_map.mpr ⟨u, hu, rfl⟩
        obtain ⟨v, hv, e'⟩ := List.mem_map.mp hm
        exact mem_dd.mpr (List.mem_map.mpr ⟨v, scan_row hq1 (scan_at hq1 hq) hv, e'⟩)
      · rw [addN, if_neg hin, List.length_append]
        show _ = scanAt B ((dd (((scanAt A k).take k).map f)).length + 1)
        show _ = addsN (scanAt B (dd (((scanAt A k).take k).map f)).length) (row B ((scanAt B (dd (((scanAt A k).take k).map f)).length).getD (dd (((scanAt A k).take k).map f)).length 0))
        rw [← ih]
        have e3 : (dd ((scanAt A k).map f))[(dd (((scanAt A k).take k).map f)).length]? = some (f r) := by
          have e4 : (scanAt A k).map f = ((scanAt A k).take k).map f ++ f r :: ((scanAt A k).drop (k + 1)).map f := by
            conv => lhs; rw [split_at' hr]
            rw [List.map_append, List.map_cons]
          have e5 : ((scanAt A k).take k).map f ++ f r :: ((scanAt A k).drop (k + 1)).map f = (((scanAt A k).take k).map f ++ [f r]) ++ ((scanAt A k).drop (k + 1)).map f := by simp
          rw [e4, e5, dd_app, dd_snoc, addN, if_neg hin]
          obtain ⟨l, hl⟩ := addsN_pre (dd (((scanAt A k).take k).map f) ++ [f r]) (((scanAt A k).drop (k + 1)).map f)
          rw [hl, List.append_assoc, List.getElem?_append_right (Nat.le_refl _), Nat.sub_self]
          rfl
        rw [List.getD_eq_getElem?_getD, e3]
        show _ = addsN _ (row B (f r))
        rw [hrow k r hrm]
    · have e1 := scan_stuck (rs := A) (Nat.le_of_not_lt hk)
      rw [e1, List.take_of_length_le (by omega)]
      rw [List.take_of_length_le (Nat.le_of_not_lt hk)] at ih
      exact ih
end U
namespace U
open PySem
theorem pl_map_range {l : List Nat} (h : l.Nodup) : l.map (pl l) = List.range l.length := by
  refine List.ext_getElem (by rw [List.length_map, List.length_range]) fun i h1 h2 => ?_
  rw [List.length_map] at h1
  rw [List.getElem_map, List.getElem_range]
  have h3 := pl_at (List.getElem_mem h1)
  obtain ⟨h4, h5⟩ := List.getElem?_eq_some_iff.mp h3
  have pw := List.pairwise_iff_getElem.mp h
  rcases Nat.lt_trichotomy (pl l l[i]) i with z | z | z
  · exact (pw _ i h4 h1 z h5).elim
  · exact z
  · exact (pw i _ h1 h4 z h5.symm).elim
section
variable {m : Nat} {rs : Rws} {gd : List Nat} {i j : Nat}
theorem scan_cl (w : WFB m rs) (hi : (scanAt rs i).length = i) : Cl m rs (scanAt rs i) := ⟨w.scan_lt i, fun r hr t ht => scan_closed (by omega) hr ht⟩
/-- the room of the least table in which r is -/
def cl0 (o : List Nat) (g : Nat → Nat) (r : Nat) : Nat := num o g r
theorem head_of {o : List Nat} {g : Nat → Nat} {r : Nat} (hr : r ∈ o) : ∃ h, (headsOf o g)[num o g r]? = some h ∧ h ∈ o ∧ g h = g r := by
  have h1 : g r ∈ dd (o.map g) := mem_dd.mpr (List.mem_map.mpr ⟨r, hr, rfl⟩)
  have h2 := pl_at h1
  rw [← heads_map] at h2
  obtain ⟨h, hh, e⟩ : ∃ h, (headsOf o g)[pl ((headsOf o g).map g) (g r)]? = some h ∧ g h = g r := by
    rw [List.getElem?_map] at h2
    cases q : (headsOf o g)[pl ((headsOf o g).map g) (g r)]? with
    | none => rw [q] at h2; cases h2
    | some h => rw [q] at h2; exact ⟨h, rfl, Option.some.inj h2⟩
  rw [heads_map] at hh
  exact ⟨h, hh, heads_mem (List.mem_of_getElem? hh), e⟩
theorem num_congr {o : List Nat} {g : Nat → Nat} {r s : Nat} (h : g r = g s) : num o g r = num o g s := by
  unfold num
  rw [h]
theorem map_at'' {xs : List Nat} {f : Nat → Nat} {i x : Nat} (h : xs[i]? = some x) : (xs.map f)[i]? = some (f x) := by
  rw [List.getElem?_map, h]
  rfl
theorem num_heads {o : List Nat} {g : Nat → Nat} {p h : Nat} (hp : (headsOf o g)[p]? = some h) : num o g h = p := by
  have h1 : (dd (o.map g))[p]? = some (g h) := by
    rw [← heads_map]
    exact map_at'' hp
  have h2 : g h ∈ dd (o.map g) := List.mem_of_getElem? h1
  have h3 := pl_at h2
  obtain ⟨a1, a2⟩ := List.getElem?_eq_some_iff.mp h1
  obtain ⟨b1, b2⟩ := List.getElem?_eq_some_iff.mp h3
  have pw := List.pairwise_iff_getElem.mp (nd_dd (o.map g))
  rcases Nat.lt_trichotomy (pl (dd (o.map g)) (g h)) p with z | z | z
  · exact (pw _ p b1 a1 z (b2.trans a2.symm)).elim
  · exact z
  · exact (pw p _ a1 b1 z (a2.trans b2.symm)).elim
theorem row_map_eq (w : WFB m rs) {p q : Nat} {f : Nat → Nat} (hp : p < rs.length) (hq : q < rs.length) (h : ∀ a, a < m → f (stp rs p a) = f (stp rs q a)) : (row rs p).map f = (row rs q).map f := by
  refine List.ext_getElem (by rw [List.length_map, List.length_map, w.row_len hp, w.row_len hq]) fun a ha1 ha2 => ?_
  rw [List.length_map, w.row_len hp] at ha1
  rw [List.getElem_map, List.getElem_map]
  have e1 : (row rs p)[a]'(by rw [w.row_len hp]; exact ha1) = stp rs p a := (List.getElem?_eq_some_iff.mp (w.stp_at hp ha1)).2
  have e2 : (row rs q)[a]'(by rw [w.row_len hq]; exact ha1) = stp rs q a := (List.getElem?_eq_some_iff.mp (w.stp_at hq ha1)).2
  rw [e1, e2, h a ha1]
theorem stp_of_row {A : Rws} {p a : Nat} {l : List Nat} {f : Nat → Nat} (h : row A p = l.map f) {v : Nat} (ha : l[a]? = some v) : stp A p a = f v := by
  unfold stp
  rw [h, List.getD_eq_getElem?_getD, List.getElem?_map, ha]
  rfl
end
/-- what least tells -/
structure LeastOf (rs : Rws) (gd : List Nat) (A : Rws) (gA : List Nat) : Prop where
  ex : ∃ (j i : Nat) (o : List Nat) (g : Nat → Nat), o = scanAt rs i ∧ o.length = i ∧ cnt o (sigA rs (fun r => decide (r ∈ gd)) o (j + 1)) ≤ cnt o (sigA rs (fun r => decide (r ∈ gd)) o j) ∧ g = clsA rs (fun r => decide (r ∈ gd)) o (j + 1) ∧ A = lrows rs o g ∧ gA = lgood (fun r => decide (r ∈ gd)) o g
section
variable {m : Nat} {rs A : Rws} {gd gA : List Nat}
theorem LeastOf.main (w : WFB m rs) (h : LeastOf rs gd A gA) : WFB m A ∧ GOK A.length gA ∧ LangEq m rs gd 0 A gA 0 ∧ Canon m A gA := by
  obtain ⟨j, i, o, g, ho, hi, hs, hg, hA, hgA⟩ := h.ex
  have hi' : (scanAt rs i).length = i := by rw [← ho]; exact hi
  have c : Cl m rs o := by rw [ho]; exact scan_cl w hi'
  have s : Still rs (fun r => decide (r ∈ gd)) o j := ⟨hs⟩
  have hwA : WFB m A := by rw [hA, ho]; exact w.lrows hi' g
  have hAl : A.length = (headsOf o g).length := by rw [hA]; exact lrows_len rs o g
  have hgok : GOK A.length gA := by rw [hAl, hgA]; exact GOK.filter _
  have gq : ∀ {p q : Nat}, p ∈ o → q ∈ o → (g p = g q ↔ clsA rs (fun r => decide (r ∈ gd)) o j p = clsA rs (fun r => decide (r ∈ gd)) o j q) := fun hp hq => by rw [hg]; exact s.g hp hq
  -- rows of the least table
  have hrow : ∀ r ∈ o, row A (num o g r) = (row rs r).map (num o g) := fun r hr => by
    obtain ⟨h, hh, hho, e⟩ := head_of hr
    have e1 : A[num o g r]? = some ((row rs h).map (num o g)) := by
      rw [hA]
      unfold lrows
      rw [List.getElem?_map, hh]
      rfl
    have e2 : row A (num o g r) = (row rs h).map (num o g) := by
      unfold row
      rw [List.getD_eq_getElem?_getD, e1]
      rfl
    rw [e2]
    refine row_map_eq w (c.lt h hho) (c.lt r hr) fun a ha => num_congr ?_
    rw [gq (c.stp w hho ha) (c.stp w hr ha)]
    exact s.step w c hho hr ha ((gq hho hr).mp e)
  have hstp : ∀ r ∈ o, ∀ a, a < m → stp A (num o g r) a = num o g (stp rs r a) := fun r hr a ha => stp_of_row (hrow r hr) (w.stp_at (c.lt r hr) ha)
  have hgood : ∀ r ∈ o, (r ∈ gd ↔ num o g r ∈ gA) := fun r hr => by
    obtain ⟨h, hh, hho, e⟩ := head_of hr
    have hlt := (List.getElem?_eq_some_iff.mp hh).1
    have e1 : (lmarks (fun r => decide (r ∈ gd)) o g).getD (num o g r) false = decide (h ∈ gd) := by
      unfold lmarks
      rw [List.getD_eq_getElem?_getD, List.getElem?_map, hh]
      rfl
    have e2 : (decide (h ∈ gd)) = decide (r ∈ gd) := clsA_mk j hho hr ((gq hho hr).mp e)
    rw [hgA]
    unfold lgood
    rw [List.mem_filter, List.mem_range, e1, e2, decide_eq_true_eq]
    exact ⟨fun z => ⟨hlt, z⟩, fun z => z.2⟩
  have h0o : 0 ∈ o := by rw [ho]; exact scan_has0 i
  have hnum0 : num o g 0 = 0 := by
    have e1 : o[0]? = some 0 := by rw [ho]; exact scan0 rs i
    have e2 : o = [0] ++ o.drop 1 := by
      have := split_at' e1
      rw [List.take_zero, List.nil_append] at this
      exact this
    unfold num
    obtain ⟨l, hl⟩ : ∃ l, dd (o.map g) = [g 0] ++ l := by
      rw [e2, List.map_append, dd_app]
      exact addsN_pre _ _
    rw [hl]
    unfold pl
    rw [List.idxOf_append, if_pos (List.mem_singleton.mpr rfl)]
    simp
  have hlang : ∀ r ∈ o, LangEq m rs gd r A gA (num o g r) := fun r hr =>
    rel_lang (fun x y => x ∈ o ∧ y = num o g x) (fun x y ⟨hx, e⟩ => by rw [e]; exact hgood x hx) (fun x y a ⟨hx, e⟩ ha => ⟨c.stp w hx ha, by rw [e]; exact hstp x hx a ha⟩) ⟨hr, rfl⟩
  refine ⟨hwA, hgok, ?_, ?_, ?_⟩
  · have := hlang 0 h0o
    rw [hnum0] at this
    exact this
  · -- order
    have hmap := scan_map (A := rs) (B := A) (f := num o g) hnum0 (fun k r hr => hrow r (by
      rw [ho]
      by_cases hk : k ≤ i
      · exact scan_sub hk hr
      · rw [scan_full (rs := rs) (k := i) (by omega) (by omega)] at hr
        exact hr)) i
    rw [← ho, List.take_of_length_le (by omega)] at hmap
    have e1 : dd (o.map (num o g)) = List.range (headsOf o g).length := by
      have e2 : o.map (num o g) = (o.map g).map (pl (dd (o.map g))) := by
        rw [List.map_map]
        rfl
      rw [e2, dd_map_on (o.map g) fun x hx y hy h => pl_inj (mem_dd.mpr hx) (mem_dd.mpr hy) h, pl_map_range (nd_dd _), heads_len]
    rw [e1, List.length_range, ← hAl] at hmap
    exact hmap.symm
  · intro p q hp hq hpq
    obtain ⟨hp1, ep⟩ : ∃ h, (headsOf o g)[p]? = some h := ⟨_, List.getElem?_eq_getElem (by rw [← hAl]; exact hp)⟩
    obtain ⟨hq1, eq⟩ : ∃ h, (headsOf o g)[q]? = some h := ⟨_, List.getElem?_eq_getElem (by rw [← hAl]; exact hq)⟩
    have hpo := heads_mem (List.mem_of_getElem? ep)
    have hqo := heads_mem (List.mem_of_getElem? eq)
    have np := num_heads ep
    have nq := num_heads eq
    have l1 := hlang hp1 hpo
    have l2 := hlang hq1 hqo
    rw [np] at l1
    rw [nq] at l2
    have l3 : LangEq m rs gd hp1 rs gd hq1 := l1.trans (hpq.trans l2.symm)
    have e : g hp1 = g hq1 := by
      rw [hg]
      exact sig_clsA (lang_clsA w c rfl (j + 1) hpo hqo l3)
    rw [← np, ← nq]
    exact num_congr e
end
theorem scan_word {m : Nat} {rs : Rws} (w : WFB m rs) : ∀ (k : Nat), ∀ r ∈ scanAt rs k, ∃ l : List Nat, (∀ a ∈ l, a < m) ∧ run rs 0 l = r
  | 0, r, h => ⟨[], by simp, (List.mem_singleton.mp h).symm⟩
  | k + 1, r, h => by
    have h' : r ∈ addsN (scanAt rs k) (row rs ((scanAt rs k).getD k 0)) := h
    rcases mem_addsN.mp h' with z | z
    · exact scan_word w k r z
    · have hq : ∃ q, q ∈ scanAt rs k ∧ r ∈ row rs q := by
        rw [List.getD_eq_getElem?_getD] at z
        cases e : (scanAt rs k)[k]? with
        | none => rw [e] at z; exact ⟨0, scan_has0 k, z⟩
        | some q => rw [e] at z; exact ⟨q, List.mem_of_getElem? e, z⟩
      obtain ⟨q, hq1, hq2⟩ := hq
      obtain ⟨l, hl1, hl2⟩ := scan_word w k q hq1
      obtain ⟨a, ha⟩ := List.mem_iff_getElem?.mp hq2
      have ham : a < m := by
        have := (List.getElem?_eq_some_iff.mp ha).1
        rwa [w.row_len (w.scan_lt k q hq1)] at this
      refine ⟨l ++ [a], fun b hb => ?_, ?_⟩
      · rcases List.mem_append.mp hb with y | y
        · exact hl1 b y
        · rw [List.mem_singleton.mp y]; exact ham
      · rw [run_snoc, hl2]
        unfold stp
        rw [List.getD_eq_getElem?_getD, ha]
        rfl
theorem LangEq.word {m : Nat} {A : Rws} {gA : List Nat} {p : Nat} {B : Rws} {gB : List Nat} {q : Nat} (h : LangEq m A gA p B gB q) : ∀ {l : List Nat}, (∀ a ∈ l, a < m) → LangEq m A gA (run A p l) B gB (run B q l) := fun {l} hl w hw => by
  rw [← run_app, ← run_app]
  exact h (l ++ w) fun a ha => (List.mem_append.mp ha).elim (hl a) (hw a)
section
variable {m : Nat} {A B : Rws} {gA gB : List Nat}
theorem canon_ex (wA : WFB m A) (wB : WFB m B) (cA : Canon m A gA) (h : LangEq m A gA 0 B gB 0) {p : Nat} (hp : p < A.length) : ∃ q, q < B.length ∧ LangEq m A gA p B gB q := by
  have hm : p ∈ scanAt A A.length := by rw [cA.ord]; exact List.mem_range.mpr hp
  obtain ⟨l, hl1, hl2⟩ := scan_word wA A.length p hm
  refine ⟨run B 0 l, wB.run_lt wB.pos hl1, ?_⟩
  have := h.word hl1
  rwa [hl2] at this
noncomputable def cf (m : Nat) (A : Rws) (gA : List Nat) (B : Rws) (gB : List Nat) (p : Nat) : Nat := open Classical in if h : ∃ q, q < B.length ∧ LangEq m A gA p B gB q then h.choose else 0
theorem cf_ok (wA : WFB m A) (wB : WFB m B) (cA : Canon m A gA) (h : LangEq m A gA 0 B gB 0) {p : Nat} (hp : p < A.length) : cf m A gA B gB p < B.length ∧ LangEq m A gA p B gB (cf m A gA B gB p) := by
  have e := canon_ex wA wB cA h hp
  unfold cf
  rw [dif_pos e]
  exact e.choose_spec
theorem canon_le (wA : WFB m A) (wB : WFB m B) (cA : Canon m A gA) (h : LangEq m A gA 0 B gB 0) : A.length ≤ B.length := by
  have z : ((List.range A.length).map (cf m A gA B gB)).Nodup := by
    have inj : ∀ x ∈ List.range A.length, ∀ y ∈ List.range A.length, cf m A gA B gB x = cf m A gA B gB y → x = y := fun x hx y hy e => by
      rw [List.mem_range] at hx hy
      have h1 := (cf_ok wA wB cA h hx).2
      have h2 := (cf_ok wA wB cA h hy).2
      rw [← e] at h2
      exact cA.sep x y hx hy (h1.trans h2.symm)
    have e := dd_map_on (f := cf m A gA B gB) (List.range A.length) inj
    rw [dd_of_nodup ((range_inc _).imp fun z => Nat.ne_of_lt z)] at e
    rw [← e]
    exact nd_dd _
  have := nodup_le z fun x hx => by
    obtain ⟨p, hp, rfl⟩ := List.mem_map.mp hx
    exact (cf_ok wA wB cA h (List.mem_range.mp hp)).1
  rwa [List.length_map, List.length_range] at this
theorem sorted_ext : ∀ {a b : List Nat}, a.Pairwise (· < ·) → b.Pairwise (· < ·) → (∀ x, x ∈ a ↔ x ∈ b) → a = b
  | [], [], _, _, _ => rfl
  | [], y :: b, _, _, h => by
    have := (h y).mpr (List.mem_cons_self ..)
    cases this
  | x :: a, [], _, _, h => by
    have := (h x).mp (List.mem_cons_self ..)
    cases this
  | x :: a, y :: b, ha, hb, h => by
    rw [List.pairwise_cons] at ha hb
    have e : x = y := by
      rcases List.mem_cons.mp ((h x).mp (List.mem_cons_self ..)) with z | z
      · exact z
      · rcases List.mem_cons.mp ((h y).mpr (List.mem_cons_self ..)) with u | u
        · exact u.symm
        · have h1 := hb.1 x z
          have h2 := ha.1 y u
          omega
    subst e
    rw [sorted_ext ha.2 hb.2 fun u => ?_]
    constructor
    · intro hu
      rcases List.mem_cons.mp ((h u).mp (List.mem_cons_of_mem _ hu)) with z | z
      · have := ha.1 u hu; omega
      · exact z
    · intro hu
      rcases List.mem_cons.mp ((h u).mpr (List.mem_cons_of_mem _ hu)) with z | z
      · have := hb.1 u hu; omega
      · exact z
theorem canon_uniq (wA : WFB m A) (wB : WFB m B) (oA : GOK A.length gA) (oB : GOK B.length gB) (cA : Canon m A gA) (cB : Canon m B gB) (h : LangEq m A gA 0 B gB 0) : A = B ∧ gA = gB := by
  have hlen : A.length = B.length := Nat.le_antisymm (canon_le wA wB cA h) (canon_le wB wA cB h.symm)
  have ok : ∀ {p}, p < A.length → cf m A gA B gB p < B.length ∧ LangEq m A gA p B gB (cf m A gA B gB p) := fun hp => cf_ok wA wB cA h hp
  have hun : ∀ {p q}, p < A.length → q < B.length → LangEq m A gA p B gB q → cf m A gA B gB p = q := fun hp hq e => cB.sep _ _ (ok hp).1 hq ((ok hp).2.symm.trans e)
  have h0 : cf m A gA B gB 0 = 0 := hun wA.pos wB.pos h
  have hst : ∀ {p a}, p < A.length → a < m → cf m A gA B gB (stp A p a) = stp B (cf m A gA B gB p) a := fun hp ha => hun (wA.stp_lt hp ha) (wB.stp_lt (ok hp).1 ha) ((ok hp).2.step ha)
  have hrow : ∀ {p}, p < A.length → row B (cf m A gA B gB p) = (row A p).map (cf m A gA B gB) := fun {p} hp => by
    refine List.ext_getElem (by rw [List.length_map, wB.row_len (ok hp).1, wA.row_len hp]) fun a ha1 ha2 => ?_
    have ham : a < m := by rwa [wB.row_len (ok hp).1] at ha1
    rw [List.getElem_map]
    have e1 : (row B (cf m A gA B gB p))[a] = stp B (cf m A gA B gB p) a := (List.getElem?_eq_some_iff.mp (wB.stp_at (ok hp).1 ham)).2
    have e2 : (row A p)[a]'(by rw [wA.row_len hp]; exact ham) = stp A p a := (List.getElem?_eq_some_iff.mp (wA.stp_at hp ham)).2
    rw [e1, e2, hst hp ham]
  have hmap := scan_map (A := A) (B := B) (f := cf m A gA B gB) h0 (fun k r hr => hrow (wA.scan_lt k r hr)) A.length
  rw [cA.ord, List.take_of_length_le (by rw [List.length_range]; exact Nat.le_refl _)] at hmap
  have inj : ∀ x ∈ List.range A.length, ∀ y ∈ List.range A.length, cf m A gA B gB x = cf m A gA B gB y → x = y := fun x hx y hy e => by
    rw [List.mem_range] at hx hy
    have h2 := (ok hy).2
    rw [← e] at h2
    exact cA.sep x y hx hy ((ok hx).2.trans h2.symm)
  rw [dd_map_on _ inj, dd_of_nodup ((range_inc _).imp fun z => Nat.ne_of_lt z), List.length_map, List.length_range, hlen, cB.ord] at hmap
  have hid : ∀ {p}, p < A.length → cf m A gA B gB p = p := fun {p} hp => by
    have h1 : ((List.range B.length).map (cf m A gA B gB))[p]? = (List.range B.length)[p]? := by rw [hmap]
    rw [List.getElem?_map, List.getElem?_range (by omega)] at h1
    exact Option.some.inj h1
  refine ⟨List.ext_getElem hlen fun p hp hq => ?_, sorted_ext oA.inc oB.inc fun x => ?_⟩
  · have e1 : A[p] = row A p := by
      have := row_at hp
      rw [List.getElem?_eq_getElem hp] at this
      exact Option.some.inj this
    have e2 : B[p] = row B p := by
      have := row_at hq
      rw [List.getElem?_eq_getElem hq] at this
      exact Option.some.inj this
    have e3 := hrow hp
    rw [hid hp] at e3
    rw [e1, e2, e3]
    refine (List.map_id _).symm.trans (List.map_congr_left fun t ht => ?_)
    exact (hid (wA.row_lt hp ht)).symm
  · constructor
    · intro hx
      have := (ok (oA.lt x hx)).2.here.mp hx
      rwa [hid (oA.lt x hx)] at this
    · intro hx
      have hxa : x < A.length := by rw [hlen]; exact oB.lt x hx
      refine (ok hxa).2.here.mpr ?_
      rw [hid hxa]
      exact hx
end
end U
namespace U
open PySem L2
theorem paired3 {α β : Type} {F : α → β → Prop} {xs : List α} {a b c : β} (h : Paired F xs [a, b, c]) : ∃ x y z, xs = [x, y, z] ∧ F x a ∧ F y b ∧ F z c := by
  cases h with
  | cons h1 t => cases t with
    | cons h2 t => cases t with
      | cons h3 t => cases t with
        | nil => exact ⟨_, _, _, rfl, h1, h2, h3⟩
end U
namespace U
open PySem PySem.Spec PyProof.Rows L2
section
variable {α : Type} [DecidableEq α]
/-- the places met, k of them gone through -/
def gAt (nx : α → List α) (s : α) : Nat → List α
  | 0 => [s]
  | k + 1 => addsN (gAt nx s k) (nx ((gAt nx s k).getD k s))
variable {nx : α → List α} {s : α}
theorem g_nd : ∀ k, (gAt nx s k).Nodup
  | 0 => by simp [gAt]
  | k + 1 => nd_addsN (g_nd k)
theorem g_pre (k : Nat) : ∃ m, gAt nx s (k + 1) = gAt nx s k ++ m := addsN_pre _ _
theorem g_mono (k : Nat) : ∀ j, ∃ m, gAt nx s (k + j) = gAt nx s k ++ m
  | 0 => ⟨[], by simp⟩
  | j + 1 => by
    obtain ⟨m1, e1⟩ := g_mono k j
    obtain ⟨m2, e2⟩ := g_pre (nx := nx) (s := s) (k + j)
    exact ⟨m1 ++ m2, by rw [show k + (j + 1) = k + j + 1 from rfl, e2, e1, List.append_assoc]⟩
theorem g_at {k l q : Nat} {x : α} (h : (gAt nx s k)[q]? = some x) (hl : k ≤ l) : (gAt nx s l)[q]? = some x := by
  obtain ⟨j, rfl⟩ : ∃ j, l = k + j := ⟨l - k, by omega⟩
  obtain ⟨m, e⟩ := g_mono (nx := nx) (s := s) k j
  rw [e, List.getElem?_append_left (List.getElem?_eq_some_iff.mp h).1]
  exact h
theorem g_sub {k l : Nat} (hl : k ≤ l) {x : α} (h : x ∈ gAt nx s k) : x ∈ gAt nx s l := by
  obtain ⟨q, hq⟩ := List.mem_iff_getElem?.mp h
  exact List.mem_of_getElem? (g_at hq hl)
theorem g_s (k : Nat) : (gAt nx s k)[0]? = some s := g_at (k := 0) rfl (Nat.zero_le _)
theorem g_has (k : Nat) : s ∈ gAt nx s k := List.mem_of_getElem? (g_s k)
theorem g_pos (k : Nat) : 0 < (gAt nx s k).length := (List.getElem?_eq_some_iff.mp (g_s k)).1
theorem g_inv {P : α → Prop} (h0 : P s) (hn : ∀ x, P x → ∀ y ∈ nx x, P y) : ∀ k, ∀ x ∈ gAt nx s k, P x
  | 0, x, h => by
    rw [List.mem_singleton.mp h]
    exact h0
  | k + 1, x, h => by
    rcases mem_addsN.mp h with h | h
    · exact g_inv h0 hn k x h
    · refine hn _ ?_ x h
      rw [List.getD_eq_getElem?_getD]
      cases e : (gAt nx s k)[k]? with
      | none => exact h0
      | some y => exact g_inv h0 hn k y (List.mem_of_getElem? e)
/-- a place that was gone through: its neighbours are there -/
theorem g_row {k q : Nat} {x : α} (hq : q < k) (h : (gAt nx s k)[q]? = some x) (hl : (gAt nx s q).length > q) {y : α} (hy : y ∈ nx x) : y ∈ gAt nx s k := by
  obtain ⟨z, hz⟩ : ∃ z, (gAt nx s q)[q]? = some z := ⟨_, List.getElem?_eq_getElem hl⟩
  have e := g_at hz (Nat.le_of_lt hq)
  rw [h] at e
  cases e
  refine g_sub (show q + 1 ≤ k from hq) ?_
  refine mem_addsN.mpr (.inr ?_)
  rw [List.getD_eq_getElem?_getD, hz]
  exact hy
/-- all of it was gone through, one place at a time -/
structure Done (nx : α → List α) (s : α) (k : Nat) : Prop where
  len : (gAt nx s k).length = k
  ok : ∀ q, q < k → q < (gAt nx s q).length
theorem Done.cl {k : Nat} (d : Done nx s k) {x y : α} (h : x ∈ gAt nx s k) (hy : y ∈ nx x) : y ∈ gAt nx s k := by
  obtain ⟨q, hq⟩ := List.mem_iff_getElem?.mp h
  have hlt := (List.getElem?_eq_some_iff.mp hq).1
  rw [d.len] at hlt
  exact g_row hlt hq (d.ok q hlt) hy
end
section
variable {α : Type} [DecidableEq α] {nx : α → List α} {s : α} {m : Nat}
def gRows (nx : α → List α) (o : List α) : Rws := o.map fun x => (nx x).map (pl o)
theorem gRows_len (nx : α → List α) (o : List α) : (gRows nx o).length = o.length := List.length_map ..
theorem gRows_wf {k : Nat} (d : Done nx s k) (hk : k ≤ 4000) (hm : m ≤ 3) (hw : ∀ x ∈ gAt nx s k, (nx x).length = m) : WFB m (gRows nx (gAt nx s k)) where
  pos := by rw [gRows_len]; exact g_pos k
  le := by rw [gRows_len, d.len]; exact hk
  m3 := hm
  wid := fun r hr => by
    obtain ⟨x, hx, rfl⟩ := List.mem_map.mp hr
    rw [List.length_map, hw x hx]
  lt := fun r hr t ht => by
    obtain ⟨x, hx, rfl⟩ := List.mem_map.mp hr
    obtain ⟨y, hy, rfl⟩ := List.mem_map.mp ht
    rw [gRows_len]
    exact pl_lt (d.cl hx hy)
theorem gRow_at {o : List α} {q : Nat} {x : α} (h : o[q]? = some x) : row (gRows nx o) q = (nx x).map (pl o) := by
  unfold row gRows
  rw [List.getD_eq_getElem?_getD, List.getElem?_map, h]
  rfl
theorem gStp {o : List α} {q a : Nat} {x y : α} (h : o[q]? = some x) (ha : (nx x)[a]? = some y) : stp (gRows nx o) q a = pl o y := by
  unfold stp
  rw [gRow_at h, List.getD_eq_getElem?_getD, List.getElem?_map, ha]
  rfl
/-- a step of the places -/
def gRun (st : α → Nat → α) (x : α) (w : List Nat) : α := w.foldl st x
theorem gRun_eq {k : Nat} (d : Done nx s k) {st : α → Nat → α} (hst : ∀ x ∈ gAt nx s k, ∀ a, a < m → (nx x)[a]? = some (st x a)) : ∀ (w : List Nat) (x : α), x ∈ gAt nx s k → (∀ a ∈ w, a < m) → gRun st x w ∈ gAt nx s k ∧ run (gRows nx (gAt nx s k)) (pl (gAt nx s k) x) w = pl (gAt nx s k) (gRun st x w)
  | [], x, hx, _ => ⟨hx, rfl⟩
  | a :: w, x, hx, hw => by
    have ha := hst x hx a (hw a (List.mem_cons_self ..))
    have hy := d.cl hx (List.mem_of_getElem? ha)
    have h := gRun_eq d hst w (st x a) hy fun b hb => hw b (List.mem_cons_of_mem _ hb)
    refine ⟨h.1, ?_⟩
    show run _ (stp _ _ a) w = _
    rw [gStp (pl_at hx) ha]
    exact h.2
/-- the rooms that are marked -/
def gGood (f : α → Bool) (s : α) (o : List α) : List Nat := (List.range o.length).filter fun r => f (o.getD r s)
theorem pl_getD {o : List α} {x : α} (h : x ∈ o) : o.getD (pl o x) s = x := by
  rw [List.getD_eq_getElem?_getD, pl_at h]
  rfl
theorem mem_gGood {f : α → Bool} {o : List α} {x : α} (h : x ∈ o) : pl o x ∈ gGood f s o ↔ f x = true := by
  unfold gGood
  rw [List.mem_filter, List.mem_range, pl_getD h]
  exact ⟨fun z => z.2, fun z => ⟨pl_lt h, z⟩⟩
theorem pl_s (k : Nat) : pl (gAt nx s k) s = 0 := by
  have h := g_s (nx := nx) (s := s) k
  have h2 := pl_at (g_has (nx := nx) (s := s) k)
  obtain ⟨a1, a2⟩ := List.getElem?_eq_some_iff.mp h
  obtain ⟨b1, b2⟩ := List.getElem?_eq_some_iff.mp h2
  have pw := List.pairwise_iff_getElem.mp (g_nd (nx := nx) (s := s) k)
  rcases Nat.eq_zero_or_pos (pl (gAt nx s k) s) with z | z
  · exact z
  · exact (pw 0 _ a1 b1 z (a2.trans b2.symm)).elim
/-- what the machine tells -/
theorem gLang {k : Nat} (d : Done nx s k) {st : α → Nat → α} (hst : ∀ x ∈ gAt nx s k, ∀ a, a < m → (nx x)[a]? = some (st x a)) (f : α → Bool) {w : List Nat} (hw : ∀ a ∈ w, a < m) :
    run (gRows nx (gAt nx s k)) 0 w ∈ gGood f s (gAt nx s k) ↔ f (gRun st s w) = true := by
  have h := gRun_eq d hst w s (g_has k) hw
  rw [pl_s] at h
  rw [h.2]
  exact mem_gGood h.1
theorem gGood_ok (f : α → Bool) (s : α) (o : List α) : GOK o.length (gGood f s o) := GOK.filter _
end
section
variable {A B : Rws} {m : Nat}
def jn (m : Nat) (A B : Rws) (pr : Nat × Nat) : List (Nat × Nat) := (List.range m).map fun a => (stp A pr.1 a, stp B pr.2 a)
def jst (A B : Rws) (pr : Nat × Nat) (a : Nat) : Nat × Nat := (stp A pr.1 a, stp B pr.2 a)
theorem jn_at {pr : Nat × Nat} {a : Nat} (ha : a < m) : (jn m A B pr)[a]? = some (jst A B pr a) := by
  unfold jn
  rw [List.getElem?_map, List.getElem?_range ha]
  rfl
theorem jn_len (pr : Nat × Nat) : (jn m A B pr).length = m := by
  unfold jn
  rw [List.length_map, List.length_range]
theorem jrun : ∀ (w : List Nat) (pr : Nat × Nat), gRun (jst A B) pr w = (run A pr.1 w, run B pr.2 w)
  | [], _ => rfl
  | a :: w, pr => jrun w (jst A B pr a)
abbrev jAt (m : Nat) (A B : Rws) : Nat → List (Nat × Nat) := gAt (jn m A B) (0, 0)
theorem j_lt (wA : WFB m A) (wB : WFB m B) (k : Nat) : ∀ pr ∈ jAt m A B k, pr.1 < A.length ∧ pr.2 < B.length := g_inv ⟨wA.pos, wB.pos⟩ (fun pr h y hy => by
  obtain ⟨a, ha, rfl⟩ := List.mem_map.mp hy
  have ha := List.mem_range.mp ha
  exact ⟨wA.stp_lt h.1 ha, wB.stp_lt h.2 ha⟩) k
end
end U
namespace U
open PySem PySem.Spec PyProof.Rows L2
theorem pl_app {α : Type} [DecidableEq α] {l m : List α} {x : α} (h : x ∈ l) : pl (l ++ m) x = pl l x := by
  unfold pl
  rw [List.idxOf_append, if_pos h]
theorem pl_g {α : Type} [DecidableEq α] {nx : α → List α} {s : α} {k l : Nat} (hl : k ≤ l) {x : α} (h : x ∈ gAt nx s k) : pl (gAt nx s l) x = pl (gAt nx s k) x := by
  obtain ⟨j, rfl⟩ : ∃ j, l = k + j := ⟨l - k, by omega⟩
  obtain ⟨m, e⟩ := g_mono (nx := nx) (s := s) k j
  rw [e, pl_app h]
theorem numN_put {l : List NestedKey} {n : NestedKey} (h : n ∉ l) : putN (mapN l (numD l)) n (vn l.length) = mapN (l ++ [n]) (numD (l ++ [n])) := by
  rw [show mapN l (numD l) = mapN l (numD (l ++ [n])) from mapN_congr fun x hx => by unfold numD; rw [pl_snoc_in hx]]
  exact putN_mapN h (by unfold numD; rw [pl_snoc_new h])
theorem pl_map {α β : Type} [DecidableEq α] [DecidableEq β] {f : α → β} (hf : ∀ x y, f x = f y → x = y) (l : List α) (x : α) : pl (l.map f) (f x) = pl l x := by
  unfold pl
  induction l with
  | nil => rfl
  | cons a l ih =>
    rw [List.map_cons, List.idxOf_cons, List.idxOf_cons, ih]
    by_cases e : a = x
    · subst e
      rw [beq_self_eq_true, beq_self_eq_true]
    · have h1 : (f a == f x) = false := beq_false_of_ne fun z => e (hf _ _ z)
      have h2 : (a == x) = false := beq_false_of_ne e
      rw [h1, h2]
end U
namespace U
open PySem PySem.Spec PyProof.Rows L2
theorem gMarks {α : Type} (f : α → Bool) (s : α) (o : List α) : (List.range o.length).map (fun r => V.bl (decide (r ∈ gGood f s o))) = o.map fun x => V.bl (f x) := by
  refine List.ext_getElem (by simp) fun i h1 h2 => ?_
  rw [List.getElem_map, List.getElem_map, List.getElem_range]
  have hi : i < o.length := by simpa using h2
  have e : o.getD i s = o[i] := by
    rw [List.getD_eq_getElem?_getD, List.getElem?_eq_getElem hi]
    rfl
  congr 1
  unfold gGood
  cases hf : f o[i] with
  | true => exact decide_eq_true (List.mem_filter.mpr ⟨List.mem_range.mpr hi, by rw [e, hf]⟩)
  | false =>
    refine decide_eq_false fun z => ?_
    have := (List.mem_filter.mp z).2
    rw [e, hf] at this
    cases this
end U
namespace U
open PySem PySem.Spec PyProof.Rows L2
theorem g_le {α : Type} [DecidableEq α] {nx : α → List α} {s : α} {i : Nat} (hok : ∀ q, q < i → q < (gAt nx s q).length) : i ≤ (gAt nx s i).length := by
  cases i with
  | zero => exact Nat.zero_le _
  | succ j =>
    have h1 := hok j (Nat.lt_succ_self j)
    obtain ⟨mm, e⟩ := g_pre (nx := nx) (s := s) j
    rw [e, List.length_append]
    omega
/-- the rows so far stand when more places are met -/
theorem g_rows {α : Type} [DecidableEq α] {nx : α → List α} {s : α} {i : Nat} (hok : ∀ q, q < i → q < (gAt nx s q).length) : ((gAt nx s i).take i).map (fun x => (nx x).map (pl (gAt nx s (i + 1)))) = ((gAt nx s i).take i).map fun x => (nx x).map (pl (gAt nx s i)) := by
  refine List.map_congr_left fun x hx => List.map_congr_left fun y hy => pl_g (Nat.le_succ i) ?_
  obtain ⟨q, hq⟩ := List.mem_iff_getElem?.mp hx
  have hql := (List.getElem?_eq_some_iff.mp hq).1
  rw [List.length_take] at hql
  rw [List.getElem?_take_of_lt (by omega)] at hq
  exact g_row (by omega) hq (hok q (by omega)) hy
theorem Paired.mapM {α β : Type} {F G : α → β → Prop} : ∀ {xs : List α} {ys : List β}, Paired F xs ys → (∀ x y, x ∈ xs → F x y → G x y) → Paired G xs ys
  | _, _, .nil, _ => .nil
  | _, _, .cons r t, h => .cons (h _ _ (List.mem_cons_self ..) r) (Paired.mapM t fun x y hx => h x y (List.mem_cons_of_mem _ hx))
end U
namespace U
open PySem PySem.Spec PyProof.Rows L2
section
variable {m : Nat} {rs A : Rws} {gd gA : List Nat}
theorem least_len (w : WFB m rs) (h : LeastOf rs gd A gA) : A.length ≤ rs.length := by
  obtain ⟨j, i, o, g, ho, hi, hs, hg, hA, hgA⟩ := h.ex
  rw [hA, lrows_len]
  refine Nat.le_trans (heads_le o g) ?_
  rw [ho]
  exact w.scan_len i
theorem least_cls (w : WFB m rs) (h : LeastOf rs gd A gA) {k : Nat} (hk : cnt (List.range rs.length) (sigB rs gd (k + 1)) = cnt (List.range rs.length) (clsB rs gd k)) : A.length ≤ cnt (List.range rs.length) (sigB rs gd (k + 1)) := by
  obtain ⟨wA, oA, hL, cA⟩ := h.main w
  have hf : ∀ p, p < A.length → cf m A gA rs gd p < rs.length ∧ LangEq m A gA p rs gd (cf m A gA rs gd p) := fun p hp => cf_ok wA w cA hL.symm hp
  have hn : ((List.range A.length).map fun p => clsB rs gd k (cf m A gA rs gd p)).Nodup := by
    rw [List.nodup_iff_pairwise_ne, List.pairwise_map]
    refine List.Pairwise.imp_of_mem ?_ (range_inc A.length)
    intro p q hp hq hlt e
    have hp := List.mem_range.mp hp
    have hq := List.mem_range.mp hq
    obtain ⟨p1, p2⟩ := hf p hp
    obtain ⟨q1, q2⟩ := hf q hq
    have e2 : LangEq m rs gd (cf m A gA rs gd p) rs gd (cf m A gA rs gd q) := fun l hl => clsB_lang w hk l _ _ p1 q1 hl e
    have := cA.sep p q hp hq (p2.trans (e2.trans q2.symm))
    omega
  have h2 := nodup_sub hn fun x hx => (show x ∈ dd ((List.range rs.length).map (clsB rs gd k)) from by
    obtain ⟨p, hp, rfl⟩ := List.mem_map.mp hx
    exact mem_dd.mpr (List.mem_map.mpr ⟨_, List.mem_range.mpr (hf p (List.mem_range.mp hp)).1, rfl⟩))
  rw [List.length_map, List.length_range] at h2
  rw [hk]
  exact h2
end
section
variable {m : Nat} {A B : Rws}
theorem jLang {k : Nat} (d : Done (jn m A B) (0, 0) k) (f : Nat × Nat → Bool) {w : List Nat} (hw : ∀ a ∈ w, a < m) : run (gRows (jn m A B) (jAt m A B k)) 0 w ∈ gGood f (0, 0) (jAt m A B k) ↔ f (run A 0 w, run B 0 w) = true := by
  rw [gLang d (st := jst A B) (fun x _ a ha => jn_at ha) f hw, jrun]
end
end U
set_option maxHeartbeats 2000000
namespace X7
open PySem PySem.Spec PyProof.Rows L2
section
variable {X : Cx}
/-- repr(text) -/
theorem call_repr_str : CallR X (.builtin "repr") (fun xs H Q => ∃ a : Str, xs = [.str a] ∧ (reprText a).length ≤ sizeLine ∧ Q (.str (reprText a)) H) := by
  intro pins s σ H xs us Q I r h
  obtain ⟨a, rfl, hz, q⟩ := h
  obtain ⟨u, rfl, t, rfl⟩ := vals1 r
  exact PySem.P.repr_of_str ⟨.str _, H, I.tok _, ⟨_, rfl⟩, q⟩ hz
/-- isinstance(e, c), e the exception that the suite holds, with or without a dict -/
def rIsD (K : PySem.W.Frag) (D a : Addr) : List V → Hp → VK → Prop := fun xs H Q => ∃ (c : V) (cv : Value) (b : Bool), xs = [.ref a, c] ∧ (∀ u, RelV c u → u = cv) ∧ PySem.W.kitOne K (.ref D) cv = some b ∧ Q (.bl b) H
theorem call_isD {a D : Addr} {d : Option Addr} {oe : Obj} {pn : List (Addr × Obj)} (C : ExcC X.K D) (hz : Zc (.ref D) d oe) (hf : ∃ vs, oe.data = .fields vs) (hd : ∀ (H : Hp) (h : Heap) (x : Addr), HOk X.prog X.w H h → d = some x → H x ≠ none → ∃ o, h.get? x = some o) :
    CallR (X.suite a ((a, oe) :: pn)) (.builtin "isinstance") (fun xs H Q => (∀ x, d = some x → H x ≠ none) ∧ rIsD X.K D a xs H Q) := by
  intro pins s σ H xs us Q I r h
  obtain ⟨hx, c, cv, b, rfl, hcv, e, q⟩ := h
  cases r with
  | cons rx rr =>
    cases rr with
    | cons rt rr =>
      cases rr
      cases rx
      have ec := hcv _ rt
      subst ec
      obtain ⟨hget, _⟩ := I.pin (a, oe) (List.mem_append.mpr (.inl List.mem_cons_self))
      obtain ⟨vs, hv⟩ := hf
      have J : ∃ od, PySem.W.InstAt s.heap a oe D od := by
        obtain ⟨oc, od, oda, osl⟩ := oe
        obtain ⟨h1, h2⟩ := hz
        dsimp only at h1 h2 hv
        subst h1 h2 hv
        cases od with
        | none => exact ⟨none, hget, rfl, rfl, trivial⟩
        | some x =>
          obtain ⟨o, ho⟩ := hd H s.heap x I.hok rfl (hx x rfl)
          exact ⟨some o, hget, rfl, rfl, ho⟩
      obtain ⟨od, J⟩ := J
      exact PySem.W.kia_one (PySem.W.kitx_exc (by obtain ⟨cd, hc, _⟩ := PySem.W.any_some C.hd; rw [hc]; rfl) C.hg C.hk C.hs C.ha C.hn C.ht C.hm) I.kIn J e (fun z => nomatch z) fun tk => ⟨.bl b, H, I.kept (t' := tk) fun _ _ z => z, rfl, q⟩
end
end X7
set_option maxHeartbeats 4000000
namespace X7
open PySem PySem.Spec PyProof.Rows L2
open NdefX (NF NScope CellsAt ncx startF envF)
section
variable {prog : Program} {w : World} {A : Around} {E : Value → Shared → Prop} {h : Heap} {g : Array GenState} {d : Drawn} {t : Nat} {os : OsState}
theorem call_mw {nm q : Str} {C N u e t0 : Addr} {bs bm : List Value} {hdct : Bool} {sn : List Str} {sub : List Value} {ab : Bool} {col : Option Bool} {dd : Option Addr} {k0 k1 k2 k3 k5 : Option Value} {us : List Value} {Q : Value → Shared → Prop}
    (hC : h.get? C = some (excClassObj nm q C N bs bm hdct sn sub ab col dd k0 k1 k2 k3 k5 "ValueError.__new__")) (he : h.get? e = some (PySem.HandSPX.excO C t0)) (hu : h.get? u = some (PySem.W.kxs_mw "ValueError.__init__" e)) (hz : us.length ≤ sizeLine)
    (hq : ∀ h' t1, (∀ b o, b ≠ e → h.get? b = some o → h'.get? b = some o) → h'.get? e = some (PySem.HandSPX.excO C t1) → Q .none ⟨h', g, d, t, os⟩) :
    wpAny (model prog w) A (call (.ref u) us) Q E ⟨h, g, d, t, os⟩ := by
  refine wpAny_call (codeAny_of_tree (show wpAny _ A.in1 (callAny (.ref u) ⟨us, []⟩) _ _ _ from ?_))
  unfold callAny
  refine wpAny_bind (wpAny_load hu ?_)
  have t1 : (Value.type "method-wrapper" == Value.type "method" || Value.type "method-wrapper" == Value.type "builtin_function_or_method" || Value.type "method-wrapper" == Value.type "method-wrapper") = true := by decide
  simp only [PySem.W.kxs_mw, t1, if_true]
  refine PySem.W.KFB.if_so (by decide) (wpAny_bind (PySem.W.check_bound_init PySem.F.excBase_ValueError.toExcCallFacts hC he rfl ?_))
  refine wpAny_bind (wpAny_pure (wpAny_pure ⟨plainId_quiet PySem.F.excBase_ValueError.init.plain _, codeAny_builtin PySem.F.excBase_ValueError.initEntry ?_⟩))
  exact PySem.W.exc_init_tree (cls := .ref C) (t0 := t0) (dv := none) (c2 := .none) (c3 := .none) (b4 := .bool false) he hz fun h' k e' _ => hq h' _ k e'
end
/-- what the written part says of the error class at C; D: the class that holds the __init__; f: the field -/
structure IniC (K : PySem.W.Frag) (C D : Addr) (f : Str) : Prop where
  ox : OexC K C
  cD : ∃ cd, PySem.W.clsIn K D = some cd
  sub : PySem.W.mroIn K C (.ref D) = some true
  sup : PySem.W.ks_superIn K C D "__init__" = some (some (.builtin "ValueError.__init__"))
  sB : PySem.W.subIn K (.ref C) (.type "ValueError") = some true
  nf : PySem.W.findIn K (.ref C) f = some none
  op : PySem.W.nsIn K cStatics "thirdparty.any" = some none
def spIni (K : PySem.W.Frag) (D : Addr) (f : Str) (okv : V → Prop) : Sp := fun vs H Q _ => ∃ a C v, vs = [.ref a, v] ∧ okv v ∧ IniC K C D f ∧ H a = some (exo a C none) ∧ ∀ dx, H dx = none → dx ≠ a → Q .non (upd (upd H dx (exd dx [(f, v)])) a (exo a C (some dx)))
/-- the argument's expression: what it needs of the parameter's value -/
def ArgE (e : Expr) (p : Str) (okv : V → Prop) : Prop := (∀ env, starEach [e] env = (false, eval e env) :: starEach [] env) ∧ ∀ X : Cx, X.N[1]? = some p → Vis X.env.scope p → ∃ te, PE X e te ∧ ∀ (v : V) (σ : L2.St) (H : Hp) (Q : VK), okv v → σ[1]? = some (some v) → (∀ z, Q z H) → te σ H Q
section
variable {P : Program} {w : World} {K : PySem.W.Frag} {mg : Str → Option Value} {base : Heap} {fI D cc cda : Addr} {st : Stmt} {p f qual : Str} {e : Expr} {oc kV doc pm ct ccl cl : Value} {od an cdd cld : Option Addr} {osl ccs csl : Array (Option Value)} {vs : Array Value} {file : Str} {tf : Tok} {okv : V → Prop}
abbrev iniFd (st : Stmt) (qual : Str) (kV doc pm ct : Value) (an : Option Addr) (cda cc : Addr) : FuncData := PySem.W.ksFn "__init__" qual (C8.fnArgs st) (C8.fnBody st) (C8.fnScope st) .none kV doc pm an (.ref cda) ct cc
theorem ini_ok (lk : K.lookup fI = some ⟨oc, od, .func (iniFd st qual kV doc pm ct an cda cc), osl⟩) (hcd : PySem.W.codeIn K (.ref cda) qual = true) (lc : K.lookup cda = some ⟨ccl, cdd, .fields vs, ccs⟩) (hvs : vs[2]? = some (.str file tf))
    (hfile : ((P.main.file : Str) == file) = true) (htop : (P.main.scope.names.lookup ("super" : Str)).isSome = false) (lcc : K.lookup cc = some ⟨cl, cld, .cell (some (.ref D)), csl⟩) (hsup : mg "super" = none)
    (S : NScope ["self", p, "__class__"] ["self", p] ["__class__"] (C8.fnScope st)) (hks : (C8.fnScope st).names.lookup ("super" : Str) = some .globalImplicit)
    (hbd : ∃ p0 p1 p2 p3 p4 q1 q2 q3 q4 : Pos, (p2.endLine == p3.line) = true ∧ C8.fnBody st = [.Expr (.Call (.Attribute (.Call (.Name "super" p0) [] [] p1) "__init__" p2) [e] [] p3) p4, .Assign [.Attribute (.Name "self" q1) f q2] (.Name p q3) q4])
    (hpar : ∃ ar : Arg, ((C8.fnArgs st).posonlyargs ++ (C8.fnArgs st).args).head? = some ar ∧ ar.arg = "self") (hE : ArgE e p okv) (hpd : (p == ("__debug__" : Str)) = false) (hpc : (p == ("__classdict__" : Str)) = false) :
    FnOk P w K mg base C8.CX0 1 fI (iniFd st qual kV doc pm ct an cda cc) ["self", p] (spIni K D f okv) := by
  refine ⟨fun ws H Q E ⟨a, C, v, e1, _⟩ => by rw [e1] <;> rfl, fun A outer s H args us ws Q E hr e0 hb r hsp => ?_⟩
  obtain ⟨x, C, v, rfl, hokv, hc, hx, hq⟩ := hsp
  have KX : K.In s.heap := e0.mod.kin.keeps fun b o e => (e0.bs b o e).1
  have lim : s.heap.NoLimit := e0.mod.nolimit.keeps fun b o e => (e0.bs b o e).1
  have hl : us.length = 2 := by rw [← r.length]; rfl
  refine codeAny_call_function hr.depth (KX _ _ lk) rfl S.co S.gen rfl (PySem.W.codeRec_of KX hcd) (hb _ _ _ _ ?_)
  refine wpAny_newFunctionEnv S.nocell (fun ⟨n, _⟩ hy => S.par n (List.of_mem_zip hy).1) (fun h₁ hns hsb => ⟨lim.fresh _ hsb, ?_⟩) S.kind
  have kp : ∀ b o, s.heap.get? b = some o → h₁.get? b = some o := fun b o e => hsb.extBut b o (Nat.ne_of_lt (Heap.lt_size e)) (Heap.get?_push_of_some _ e)
  -- the frame as a context
  let F : NF := ⟨"__init__", qual, C8.fnArgs st, C8.fnBody st, C8.fnScope st, [("__class__", cc)], cda⟩
  have hcc : H cc = none := (e0.bs cc _ (e0.mod.kin _ _ lcc)).2
  have look1 : ∀ {y : Str} {c : Addr}, List.lookup y [(("__class__" : Str), cc)] = some c → y = "__class__" ∧ c = cc := fun {y c} h => by
    by_cases hy : y = "__class__"
    · rw [hy] at h
      simp [List.lookup] at h
      exact ⟨hy, h.symm⟩
    · have : (y == ("__class__" : Str)) = false := by simpa using hy
      simp [List.lookup, this] at h
  have CA : CellsAt F.cl ["__class__"] [none] s.heap H := ⟨rfl, fun y c h => by
      obtain ⟨_, rfl⟩ := look1 h
      exact ⟨hcc, some (.ref D), _, KX _ _ lcc, rfl⟩, fun y z c h1 h2 => (look1 h1).1.trans (look1 h2).1.symm, fun i y hy => by
      cases i with
      | zero =>
        simp at hy
        subst hy
        exact ⟨cc, by simp [F, List.lookup], fun v h => by simp at h⟩
      | succ i => simp at hy⟩
  have I : L2.Inv (ncx C8.CX0 P w K mg base (["self", p, "__class__"] : List Str) F fI A outer s H E) [] (startF (["self", p, "__class__"] : List Str) [.ref x, v] [none]) H { s with heap := h₁, toks := s.toks + ((["self", p] : List Str).zip us).length } :=
    NdefX.inv_startN (F := F) (f := fI) (fr := ["__class__"]) S hr.hd e0 rfl r CA hns kp
  cases r with
  | @cons _ u0 _ ur r0 rr =>
  cases rr with
  | @cons _ u1 _ ur2 r1 rr2 =>
  cases rr2
  obtain rfl : u0 = Value.ref x := r0
  obtain ⟨p0, p1, p2, p3, p4, q1, q2, q3, q4, hln, hbd⟩ := hbd
  obtain ⟨ar, har, har2⟩ := hpar
  obtain ⟨hst, hE⟩ := hE
  
  have hndp : (["self", p] : List Str).Nodup := (List.nodup_append.mp (show ((["self", p] : List Str) ++ (["__class__"] : List Str)).Nodup from S.nd)).1
  generalize hX : ncx C8.CX0 P w K mg base (["self", p, "__class__"] : List Str) F fI A outer s H E = X at I
  have eenv : X.env = envF F fI s.heap.objs.size := by rw [← hX]; rfl
  have eN : X.N = (["self", p, "__class__"] : List Str) := by rw [← hX]; rfl
  have eK : X.K = K := by rw [← hX]; rfl
  have eP : X.prog = P := by rw [← hX]; rfl
  have ew : X.w = w := by rw [← hX]; rfl
  have eA : X.A = A.deeper (envF F fI s.heap.objs.size) := by rw [← hX]; rfl
  have emg : X.mg = mg := by rw [← hX]; rfl
  have hvis : Vis X.env.scope p := by rw [eenv]; exact .inl (S.par p (by simp))
  obtain ⟨te, hte, hteq⟩ := hE X (by rw [eN]; rfl) hvis
  obtain ⟨hox, ⟨cdD, hD⟩, hsub, hsupr, hsB, hnf, hop⟩ := hc
  obtain ⟨nm, q, N0, bs, bm, sn, sub, ab, col, dd, k0, k1, k2, k3, k5, hC, hbm⟩ := id hox.cls
  have hKin : K.In h₁ := KX.keeps kp
  obtain ⟨oD, hD1, hD2⟩ : ∃ oD, h₁.get? D = some oD ∧ oD.data = .cls cdD := by
    unfold PySem.W.clsIn at hD
    split at hD
    · rename_i lo
      cases hD
      exact ⟨_, hKin _ _ lo, rfl⟩
    · cases hD
  obtain ⟨cd, hcl⟩ : ∃ cd, PySem.W.clsIn K C = some cd := ⟨_, by unfold PySem.W.clsIn; rw [hC] <;> rfl⟩
  obtain ⟨t1, hxo⟩ := exo_at I.hok hx
  have J0 : PySem.W.InstAt h₁ x ({ cls := .ref C, dict := none, data := .fields #[.ref t1, .none, .none, .none, .bool false, .none] } : Obj) C none := ⟨hxo, rfl, rfl, trivial⟩
  obtain ⟨mb, hb1, hb2⟩ := e0.mod.blt
  have bk : ∀ b o, base.get? b = some o → h₁.get? b = some o := fun b o e => kp b o (e0.bs b o e).1
  have hhd : callEnv (iniFd st qual kV doc pm ct an cda cc) s.heap.objs.size fI = envF F fI s.heap.objs.size := rfl
  refine PySem.ks_codeAny_funcAt ?_
  show _root_.PySem.wpAt (model P w) (A.deeper (envF F fI s.heap.objs.size)) (.func (C8.fnBody st) (envF F fI s.heap.objs.size)) (execs (C8.fnBody st) (envF F fI s.heap.objs.size)) _ _ _
  rw [hbd]
  generalize hen : envF F fI s.heap.objs.size = env
  have hint : interactive env = false := by
    rw [← hen]
    show ((C8.fnScope st).kind == .module && _) = false
    rw [S.kind] <;> rfl
  have hcall : eval (.Call (.Attribute (.Call (.Name "super" p0) [] [] p1) "__init__" p2) [e] [] p3) env = (do
      let ov ← attributeBase (.Call (.Name "super" p0) [] [] p1) "__init__" env (eval (.Call (.Name "super" p0) [] [] p1) env)
      standAt p2.atName
      let (g, first) ← holding [ov] (getMethod ov "__init__" (do return (← importBound (.Call (.Name "super" p0) [] [] p1) env).getD true))
      callWith p3 g first (backTo p3 (starEach [e] env)) []) := by
    have hf : methodCallForm ([e].length + ([] : List Keyword).length) (backTo p3 (starEach [e] env)) (backToKw p3 (keywordEach [] env)) = true := by
      rw [hst] <;> rfl
    show (attributeBase (.Call (.Name "super" p0) [] [] p1) "__init__" env (eval (.Call (.Name "super" p0) [] [] p1) env) >>= fun ov => standAt p2.atName >>= fun _ => methodCall (.Call (.Name "super" p0) [] [] p1) "__init__" p2 p3 env ov ([e].length + ([] : List Keyword).length) (backTo p3 (starEach [e] env)) (backToKw p3 (keywordEach [] env))) = _
    unfold methodCall methodCallPos calleeOf
    simp only [hf, hln, Bool.not_true, Bool.or_true, if_true]
    rfl
  rw [← hen] at hint hcall ⊢
  refine PySem.ks_wpAt_execs_cons (PySem.ks_wpAt_Expr_any (PySem.ks_wpAt_MethodCall (PySem.ks_wpAt_super_base hks (S.frk _ (by simp)) (by decide) rfl (kp _ _ (KX _ _ lk)) rfl har rfl (kp _ _ (KX _ _ lc)) rfl hvs hfile htop ?_) hcall) hint)
  refine PySem.W.ks_loadName_global S.kind hks (Calls.loadGlobal_builtin (e0.mod.glob.keeps bk) hsup (hb1.keeps bk) ((hb2 _ (by decide)).trans (show bootBuiltins "super" = some (.type "super") by first | rfl | kernel_rfl | decide +kernel)) ⟨rfl, ?_⟩)
  refine wpAny_loadName_free S.kind (S.frk _ (by simp)) (c := cc) (by simp [envF, PySem.W.envX, F, List.lookup]) ⟨_, kp _ _ (KX _ _ lcc), rfl⟩ ?_
  rw [har2]
  refine wpAny_loadName_local S.kind (S.par _ (by simp)) hns (v := .ref x) (NdefX.zip_look (i := 0) hndp rfl rfl) ?_
  refine PySem.ks_wpAny_isType_cls hD1 hD2 ⟨rfl, ?_⟩
  refine PySem.ks_wpAny_call_super hD1 hD2 J0.at_ J0.cls (fun c z => by cases z) (PySem.W.looks_mroIn hKin hsub) (fun h2 hso k2 => ?_)
  have hKin2 : K.In h2 := hKin.keeps k2
  have I2 : L2.Inv X [] (startF (["self", p, "__class__"] : List Str) [.ref x, v] [none]) H { s with heap := h2, toks := s.toks + ((["self", p] : List Str).zip [Value.ref x, u1]).length } := I.kept k2
  have hx2 := k2 _ _ J0.at_
  have J2 : PySem.W.InstAt h2 x ({ cls := .ref C, dict := none, data := .fields #[.ref t1, .none, .none, .none, .bool false, .none] } : Obj) C none := ⟨hx2, rfl, rfl, trivial⟩
  have hal : PySem.W.alongIn K "__init__" ((cd.mro.dropWhile (· != .ref D)).drop 1) = some (some (.builtin "ValueError.__init__")) := by
    unfold PySem.W.ks_superIn at hsupr
    rw [hcl] at hsupr
    exact hsupr
  refine PySem.W.kxs_getMethod PySem.W.kxs_ValueError hso (PySem.W.looks_opaque hKin2 hop) (l₀ := cd.mro) (fun A Q E s k q => wpAny_bind ((PySem.W.looks_clsIn hKin2 hcl) A _ E s k (wpAny_pure q))) rfl hKin2 hal (J2.type.andThen (PySem.W.looks_subIn hKin2 hsB)) (PySem.W.ks_ne hKin2 J2 hcl) (by decide) ?_
  -- the bound method at u
  have hu3 : (h2.push (PySem.W.kxs_mw "ValueError.__init__" x)).get? h2.objs.size = some (PySem.W.kxs_mw "ValueError.__init__" x) := Heap.get?_push_size _ rfl
  have I3 : L2.Inv X [] (startF (["self", p, "__class__"] : List Str) [.ref x, v] [none]) H { s with heap := h2.push (PySem.W.kxs_mw "ValueError.__init__" x), toks := s.toks + ((["self", p] : List Str).zip [Value.ref x, u1]).length + 1 } := I2.kept fun b o e => Heap.get?_push_of_some _ e
  have hfp : FpOk X [] H h2.objs.size := I2.fpOk (Nat.le_refl _) (I2.hok.fresh (Nat.le_refl _))
  have I3' : L2.Inv X [(h2.objs.size, PySem.W.kxs_mw "ValueError.__init__" x)] (startF (["self", p, "__class__"] : List Str) [.ref x, v] [none]) H { s with heap := h2.push (PySem.W.kxs_mw "ValueError.__init__" x), toks := s.toks + ((["self", p] : List Str).zip [Value.ref x, u1]).length + 1 } := I3.pins_of fun q hq => by
    rw [List.mem_singleton] at hq
    subst hq
    exact ⟨hu3, hfp.1, hfp.2.1, hfp.2.2.1, fun v z => by cases z⟩
  clear eenv eN eK eP ew eA emg
  subst hX
  have hpa : PA (ncx C8.CX0 P w K mg base (["self", p, "__class__"] : List Str) F fI A outer s H E) [e] (tCons te tNil) := pa_cons hte pa_nil (hst _)
  have hrd : tCons te tNil (startF (["self", p, "__class__"] : List Str) [.ref x, v] [none]) H (fun ws H1 => ws.length = 1 ∧ H1 = H) := hteq v _ _ _ hokv rfl fun z => ⟨rfl, rfl⟩
  have hend : ∀ {Q' : Value → Shared → Prop}, (∀ s', L2.Inv (ncx C8.CX0 P w K mg base (["self", p, "__class__"] : List Str) F fI A outer s H E) [] (startF (["self", p, "__class__"] : List Str) [.ref x, v] [none]) H s' → Q' .none s') →
      wpAny (model P w) (A.deeper (envF F fI s.heap.objs.size)) (callWith p3 (.ref h2.objs.size) [] (backTo p3 (starEach [e] (envF F fI s.heap.objs.size))) []) Q' (ncx C8.CX0 P w K mg base (["self", p, "__class__"] : List Str) F fI A outer s H E).xe { s with heap := h2.push (PySem.W.kxs_mw "ValueError.__init__" x), toks := s.toks + ((["self", p] : List Str).zip [Value.ref x, u1]).length + 1 } := fun {Q'} hQ => by
    have hru := hpa.run p3 _ _ _ H _ I3' hrd
    rw [show (ncx C8.CX0 P w K mg base (["self", p, "__class__"] : List Str) F fI A outer s H E).env = envF F fI s.heap.objs.size from rfl] at hru
    rw [hst] at hru ⊢
    refine PySem.W.kxs_callWith (i := "ValueError.__init__") (x := x) (by rfl) (Calls.evalArgs_plain (wpAny_mono hru (fun ws s4 ⟨vs4, H4, I4, r4, e4, e5⟩ => ?_) fun _ _ z => z))
    subst e5
    have hl4 : ws.length = 1 := by rw [← r4.length]; exact e4
    have hu4 := (I4.pin (h2.objs.size, PySem.W.kxs_mw "ValueError.__init__" x) (by simp)).1
    refine ⟨hu4, ?_⟩
    obtain ⟨t4, hx4⟩ := exo_at I4.hok hx
    have hC4 := I4.kIn _ _ hC
    have I5 : L2.Inv (ncx C8.CX0 P w K mg base (["self", p, "__class__"] : List Str) F fI A outer s H4 E) [] (startF (["self", p, "__class__"] : List Str) [.ref x, v] [none]) H4 s4 := I4.pins_of fun q hq => by cases hq
    obtain ⟨hp4, g4, d4, tk4, os4⟩ := s4
    refine call_mw hC4 hx4 hu4 (by rw [List.nil_append, hl4, sizeLine_eq]; decide) fun h' t5 k5 hx5 => hQ _ ?_
    have J := I5.write (t' := tk4) (x := x) (e := x) (o := exo x C none) (by rw [hx]; exact True.intro) (.inl rfl) k5 ⟨_, hx5⟩ (exo_ok hx5)
    have eu : upd H4 x (exo x C none) = H4 := funext fun b => by
      by_cases hb : b = x
      · rw [hb, upd_same, hx]
      · exact upd_ne hb
    rw [eu] at J
    exact J
  refine hend fun s5 I5 => ?_
  refine PySem.wpAt_of_wpAny ?_
  have hself : PE (ncx C8.CX0 P w K mg base (["self", p, "__class__"] : List Str) F fI A outer s H E) (.Name "self" q1) (tVar 0) := pe_var rfl (.inl (S.par _ (by simp)))
  have hpar2 : PE (ncx C8.CX0 P w K mg base (["self", p, "__class__"] : List Str) F fI A outer s H E) (.Name p q3) (tVar 1) := pe_var (hd := hpd) (hcd := hpc) rfl hvis
  have hps := pss_one (ps_ost (f := f) (p' := q2) (pos := q4) hself hpar2)
  refine wpAny_mono (hps.run [] s5 _ H { nx := fun _ H' => Q .non H', rt := Q } I5 ?_) (fun fl s' hs => ?_) fun e s' hs => hs
  · exact ⟨v, rfl, .ref x, rfl, x, C, rfl, hox, hnf, .inl ⟨hx, fun dx h1 h2 => hq dx h1 h2⟩⟩
  · have fin : ∀ {σ' : L2.St} {H' : Hp} {v : V} {u : Value}, L2.Inv (ncx C8.CX0 P w K mg base (["self", p, "__class__"] : List Str) F fI A outer s H E) [] σ' H' s' → RelV v u → Q v H' → CE outer P w H s Q u s' := fun {σ' H' v u} J rv z => ⟨v, H', J.os, J.bare, J.base, J.hok, rv, z⟩
    cases fl with
    | ret u => exact let ⟨v, σ', H', J, rv, z⟩ := hs; fin J rv z
    | next => exact let ⟨σ', H', J, z⟩ := hs; fin (v := V.non) (u := Value.none) J rfl z
    | brk => exact let ⟨_, _, _, z⟩ := hs; z.elim
    | cont => exact let ⟨_, _, _, z⟩ := hs; z.elim
end
theorem arg_str {z : Str} {n : Nat} {pos : Pos} {p : Str} {okv : V → Prop} : ArgE (.Constant (.str z) n pos) p okv := ⟨fun _ => rfl, fun X _ _ => ⟨_, pe_str, fun v σ H Q _ _ q => q _⟩⟩
/-- a value that an f-string takes -/
def FmtOk (v : V) : Prop := (∃ y : Str, v = .str y ∧ y.length ≤ 1000000) ∨ ∃ i : Int, v = .int i ∧ i.natAbs.log2 < 1920
theorem arg_fmt {z : Str} {n : Nat} {p1 p2 p3 p4 : Pos} {p : Str} (hz : z.length ≤ 1000) (hpd : (p == ("__debug__" : Str)) = false) (hpc : (p == ("__classdict__" : Str)) = false) : ArgE (.JoinedStr [.Constant (.str z) n p1, .FormattedValue (.Name p p2) (-1) none p3] p4) p FmtOk :=
  ⟨fun _ => rfl, fun X hN hV => ⟨_, pe_joined (.cons (pe_str (X := X)) (.cons (pe_fmt (pe_var (i := 1) (hd := hpd) (hcd := hpc) hN hV)) .nil)), fun v σ H Q hv hs q => by
    have e0 : (Str.empty : Str).length = 0 := rfl
    refine ⟨z, rfl, by rw [PySem.Str.length_append, e0, sizeLine_eq]; omega, v, hs, ?_⟩
    rcases hv with ⟨y, rfl, hy⟩ | ⟨i, rfl, hi⟩
    · exact .inl ⟨y, rfl, by rw [sizeLine_eq]; omega, y, rfl, by rw [PySem.Str.length_append, PySem.Str.length_append, e0, sizeLine_eq]; omega, q _⟩
    · have h1 := PyProof.Rows.int_text_len_1921 hi
      exact .inr ⟨i, rfl, hi, _, rfl, by rw [PySem.Str.length_append, PySem.Str.length_append, e0, sizeLine_eq]; omega, q _⟩⟩⟩
end X7
set_option maxHeartbeats 4000000
namespace X7
open PySem PySem.Spec PyProof.Rows L2
open L2H (RoomH PinOk cxH inv_startH)
structure CalX (P : Program) (w : World) (K : PySem.W.Frag) (mg : Str → Option Value) (base : Heap) (k : Nat) (x : Str) (sp : Sp) : Prop where
  ex : ∃ (f : Addr) (fd : FuncData) (ps : List Str), FnOk P w K mg base (L2.CX P w) k f fd ps sp ∧ mg x = some (.ref f) ∧ PySem.W.keepIn K (.ref f) = true ∧ Binds K fd ps []
section
variable {P : Program} {w : World} {K : PySem.W.Frag} {mg : Str → Option Value} {base : Heap} {N ps : List Str} {x qual : Str} {st : Stmt} {f : Addr} {fd : FuncData} {k : Nat} {sp : Sp}
theorem fnX (F : C8.Fun K x qual st f fd) (S : FnScope N ps (C8.fnScope st)) (len : ∀ vs H Q E, sp vs H Q E → vs.length = ps.length)
    (hb : ∀ (cdv : Value) (A : Around) (outer : List Env) (s : Shared) (H : Hp) (vs : List V) (Q : VK) (E : XK), Room k (A.deeper (envOfC qual (C8.fnScope st) s.heap.objs.size f cdv)) → sp vs H Q E →
      ∃ t, PSs (cxOf (L2.CX P w) P w K mg base N qual (C8.fnScope st) f cdv A outer s H E) (C8.fnBody st) t ∧ t { nx := fun _ H' => Q .non H', rt := Q } (L2.start N vs) H) : FnOk P w K mg base (L2.CX P w) (k + 1) f fd ps sp := by
  obtain ⟨_, _, _, _, _, _, _, cdv, _, _, rfl, lk, hcd⟩ := F.ex
  exact fn_of lk hcd S len fun A outer s H vs Q E hr hsp => hb cdv A outer s H vs Q E hr hsp
theorem calX (F : C8.Def K mg x st f fd) (b : Binds K fd ps []) (S : FnScope N ps (C8.fnScope st)) (len : ∀ vs H Q E, sp vs H Q E → vs.length = ps.length)
    (hb : ∀ (cdv : Value) (A : Around) (outer : List Env) (s : Shared) (H : Hp) (vs : List V) (Q : VK) (E : XK), Room k (A.deeper (envOfC x (C8.fnScope st) s.heap.objs.size f cdv)) → sp vs H Q E →
      ∃ t, PSs (cxOf (L2.CX P w) P w K mg base N x (C8.fnScope st) f cdv A outer s H E) (C8.fnBody st) t ∧ t { nx := fun _ H' => Q .non H', rt := Q } (L2.start N vs) H) : CalX P w K mg base (k + 1) x sp :=
  ⟨f, fd, ps, fnX F.fn S len hb, F.mgf, F.kp, b⟩
end
section
variable {X : Cx} {k j : Nat} {x : Str} {sp : Sp} {W : WX} {e : Expr} {es : List Expr} {t : TA} {p pos : Pos}
theorem pe_cX (c : CalX X.prog X.w X.K X.mg X.base k x sp) (hr : Room j X.A) (hk : k ≤ j) (tk : Takes X W) (hg : Gl X x) (ha : PA X (e :: es) t)
    (hdb : (x == ("__debug__" : Str)) = false := by decide) (he : starEach (e :: es) X.env = (false, eval e X.env) :: starEach es X.env := by rfl) (hpl : (backTo pos (starEach es X.env)).any (·.1) = false := by rfl) :
    PE X (.Call (.Name x p) (e :: es) [] pos) (tCallS sp (WE W) t) := by
  obtain ⟨f, fd, ps, F, hm, kp, b⟩ := c.ex
  exact pe_callS F (hr.mono hk) hg hm kp b (fun σ => passAt tk σ) ha hdb he hpl
theorem i_callS {E : L2.St → XK} {σ : L2.St} {H : Hp} {Q : VK} (q : t σ H fun vs H1 => sp vs H1 Q (E σ)) : tCallS sp E t σ H Q := q
theorem PS_nox {st : Stmt} {t : TS} (h : PS X.nox st t) : PS X st t := ⟨fun pins s σ H D I hw => by
  have z := (PSs.nox (X := X) (pss_one h)).run pins s σ H D I
  have z2 := (pss_one h).run pins s σ H D (I.wish _) hw
  exact wpAny_mono (h.run pins s σ H D (I.wish _) hw) (fun f s' q => q.unwish) fun e s' q => q.elim⟩
end
structure MakE (P : Program) (w : World) (K : PySem.W.Frag) (mg : Str → Option Value) (base : Heap) (x : Str) (C D : Addr) (f : Str) (okv : V → Prop) : Prop where
  ex : ∃ (fI : Addr) (fd : FuncData) (ps : List Str), FnOk P w K mg base C8.CX0 1 fI fd ps (spIni K D f okv) ∧ Binds K fd ps [] ∧ PySem.W.findIn K (.ref C) "__init__" = some (some (.ref fI)) ∧ PySem.W.typeIn K (.ref fI) = some (.type "function")
  ic : IniC K C D f
  mg : mg x = some (.ref C)
theorem del_exo {fs : List (Str × V)} {H1 : Hp} {a d : Addr} {o o1 o2 : HO} (ha : H1 a = none) (hd : d ≠ a) : upd (del (upd (upd (upd H1 a o) d o1) a o2) a) d (.xd fs) = upd H1 d (.xd fs) := by
  funext b
  by_cases h1 : b = d
  · subst h1
    rw [upd_same, upd_same]
  · rw [upd_ne h1, upd_ne h1]
    by_cases h2 : b = a
    · subst h2
      rw [del_same, ha]
    · rw [del_ne h2, upd_ne h2, upd_ne h1, upd_ne h2]
/-- an error is made: its one argument kept in its dict -/
theorem mkE_end {K : PySem.W.Frag} {C D : Addr} {f : Str} {okv : V → Prop} {v : V} {H1 : Hp} {Q E : XK} (ic : IniC K C D f) (hv : okv v) (q : ∀ d, H1 d = none → Q (.ref C) (some d) (upd H1 d (.xd [(f, v)]))) :
    [v].length ≤ 1000 ∧ ∀ a, H1 a = none → spIni K D f okv (.ref a :: ([v] ++ [])) (upd H1 a (exo a C none)) (fun v' H2 => v' = .non ∧ ∃ (d : Addr) (fs : List (Str × V)), H2 a = some (exo a C (some d)) ∧ H2 d = some (exd d fs) ∧ H1 d = none ∧ Q (.ref C) (some d) (upd (del H2 a) d (.xd fs))) E := by
  refine ⟨by show 1 ≤ 1000; decide, fun a ha => ⟨a, C, v, rfl, hv, ic, upd_same, fun dx hdx hne => ⟨rfl, dx, [(f, v)], upd_same, by rw [upd_ne hne, upd_same], ?_, ?_⟩⟩⟩
  · rw [upd_ne hne] at hdx
    exact hdx
  · rw [upd_ne hne] at hdx
    rw [del_exo ha hne]
    exact q dx hdx
section
variable {X : Cx} {j : Nat} {x f : Str} {C D : Addr} {okv : V → Prop} {W : WX} {e : Expr} {t : TA} {p pos pos2 : Pos}
theorem pmk_E (m : MakE X.prog X.w X.K X.mg X.base x C D f okv) (hr : Room j X.A) (hk : 2 ≤ j) (hg : Gl X x) (ha : PA X [e] t)
    (hdb : (x == ("__debug__" : Str)) = false := by decide) (he : starEach (e :: []) X.env = (false, eval e X.env) :: starEach [] X.env := by rfl) (hpl : (backTo pos (starEach [] X.env)).any (·.1) = false := by rfl) :
    PMk X (.Call (.Name x p) [e] [] pos) (tMkO C (spIni X.K D f okv) [] t) := by
  obtain ⟨fI, fd, ps, F, b, iC, tI⟩ := m.ex
  exact pmk_oex m.ic.ox iC tI F (hr.mono hk) b .nil C8.pass0 hg m.mg ha hdb he hpl
/-- raise C(e) -/
def tRaiseE (K : PySem.W.Frag) (C D : Addr) (f : Str) (okv : V → Prop) (W : WX) (t : TA) : TS := fun _ σ H => tMkO C (spIni K D f okv) [] t σ H fun cls d H' => W cls d σ H'
theorem ps_raiseE (hc : X.calm = true) (tk : Takes X W) (m : MakE X.prog X.w X.K X.mg X.base x C D f okv) (hr : Room j X.A) (hk : 2 ≤ j) (hg : Gl X x) (ha : PA X [e] t)
    (hdb : (x == ("__debug__" : Str)) = false := by decide) (he : starEach (e :: []) X.env = (false, eval e X.env) :: starEach [] X.env := by rfl) (hpl : (backTo pos (starEach [] X.env)).any (·.1) = false := by rfl) :
    PS X (.Raise (some (.Call (.Name x p) [e] [] pos)) none pos2) (tRaiseE X.K C D f okv W t) := ps_raise hc tk (pmk_E m hr hk hg ha hdb he hpl)
end
theorem i_raiseE {K : PySem.W.Frag} {C D : Addr} {f : Str} {okv : V → Prop} {W : WX} {t : TA} {Dn : Ends} {σ : L2.St} {H : Hp} (q : t σ H fun vs H1 => vs.length ≤ 1000 ∧ ∀ a, H1 a = none → spIni K D f okv (.ref a :: (vs ++ [])) (upd H1 a (exo a C none))
    (fun v' H2 => v' = .non ∧ ∃ (d : Addr) (fs : List (Str × V)), H2 a = some (exo a C (some d)) ∧ H2 d = some (exd d fs) ∧ H1 d = none ∧ W (.ref C) (some d) σ (upd (del H2 a) d (.xd fs))) (fun _ _ _ => False)) : tRaiseE K C D f okv W t Dn σ H := q
structure FnE (P : Program) (w : World) (K : PySem.W.Frag) (mg : Str → Option Value) (base : Heap) (k : Nat) (f : Addr) (fd : FuncData) (ps : List Str) (sp : Addr → Value → Option Addr → Sp) : Prop where
  len : ∀ a c d vs H Q E, sp a c d vs H Q E → vs.length = ps.length
  run : ∀ (A : Around) (outer : List Env) (s : Shared) (H : Hp) (args : Args) (us : List Value) (vs : List V) (Q : VK) (E : XK) (q : Addr × Obj), RoomH k A → PinOk outer H s q → (∃ fv, q.2.data = .fields fv) → Env0 P w K mg base A outer s H → BindsTo s fd args (ps.zip us) → Vals vs us → sp q.1 q.2.cls q.2.dict vs H Q E →
    codeAny (model P w) A (.call (.ref f) args) (CR C8.CX0 outer P w H s Q E) s
section
variable {P : Program} {w : World} {K : PySem.W.Frag} {mg : Str → Option Value} {base : Heap} {N ps : List Str} {x qual : Str} {st : Stmt} {f : Addr} {fd : FuncData} {k : Nat} {sp : Addr → Value → Option Addr → Sp}
theorem fnE (F : C8.Fun K x qual st f fd) (S : FnScope N ps (C8.fnScope st)) (len : ∀ a c d vs H Q E, sp a c d vs H Q E → vs.length = ps.length)
    (hb : ∀ (cdv : Value) (A : Around) (outer : List Env) (s : Shared) (H : Hp) (vs : List V) (Q : VK) (E : XK) (q : Addr × Obj), RoomH k (A.deeper (envOfC qual (C8.fnScope st) s.heap.objs.size f cdv)) → (∃ fv, q.2.data = .fields fv) → sp q.1 q.2.cls q.2.dict vs H Q E →
      ∃ t, PSs (cxH C8.CX0 P w K mg base N qual (C8.fnScope st) f cdv A outer s H E q).nox (C8.fnBody st) t ∧ t { nx := fun _ H' => Q .non H', rt := Q } (L2.start N vs) H) : FnE P w K mg base (k + 1) f fd ps sp := by
  obtain ⟨oc, od, dV, kV, doc, pm, an, cdv, ct, osl, rfl, lk, hcd⟩ := F.ex
  refine ⟨len, fun A outer s H args us vs Q E q hr hpin hqd e0 hbd r hsp => ?_⟩
  have hl := len _ _ _ _ _ _ _ hsp
  have kx : K.In s.heap := e0.mod.kin.keeps fun b o e => (e0.bs b o e).1
  have hk : ∀ y ∈ ps.zip us, (C8.fnScope st).names.lookup y.1 = some .local ∨ ((C8.fnScope st).names.lookup y.1 = some .cell ∧ ((cellsFrom (s.heap.objs.size + 1) (C8.fnScope st).names []).lookup y.1).isSome = true) := fun ⟨n, v⟩ hy => (S.par n (List.of_mem_zip hy).1).elim .inl fun z => .inr ⟨z, PySem.W.cellsFrom_some _ _ _ (.inl z)⟩
  refine codeAny_call_function hr.depth (kx _ _ lk) rfl S.co S.gen rfl (PySem.W.codeRec_of kx hcd) (hbd _ _ _ _ (wpAny_newFunctionEnv_cells S.kind hk fun env he s1 ic => ?_))
  subst he
  refine ⟨(e0.mod.nolimit.keeps fun b o e => (e0.bs b o e).1).keeps ic.toInCall.keep, codeAny_func ?_⟩
  obtain ⟨t, ht, hq⟩ := hb cdv A outer s H vs Q E q (hr.deeper _) hqd hsp
  have I : Inv (cxH C8.CX0 P w K mg base N qual (C8.fnScope st) f cdv A outer s H E q) [] (L2.start N vs) H s1 := inv_startH S hpin e0 hl r ic
  refine wpAny_mono (ht.nox.run [] s1 (L2.start N vs) H _ I hq) (fun fl s' hs => ?_) fun e s' hs => hs
  have fin : ∀ {σ' : L2.St} {H' : Hp} {v : V} {u : Value}, Inv (cxH C8.CX0 P w K mg base N qual (C8.fnScope st) f cdv A outer s H E q) [] σ' H' s' → RelV v u → Q v H' → CE outer P w H s Q u s' := fun {σ' H' v u} J rv z => ⟨v, H', J.os, J.bare, J.base, J.hok, rv, z⟩
  cases fl with
  | ret u => exact let ⟨v, σ', H', J, rv, z⟩ := hs; fin J rv z
  | next => exact let ⟨σ', H', J, z⟩ := hs; fin (v := V.non) (u := Value.none) J rfl z
  | brk => exact let ⟨_, _, _, z⟩ := hs; z.elim
  | cont => exact let ⟨_, _, _, z⟩ := hs; z.elim
end
structure CalE (P : Program) (w : World) (K : PySem.W.Frag) (mg : Str → Option Value) (base : Heap) (k : Nat) (x : Str) (sp : Addr → Value → Option Addr → Sp) : Prop where
  ex : ∃ (f : Addr) (fd : FuncData) (ps : List Str), FnE P w K mg base k f fd ps sp ∧ mg x = some (.ref f) ∧ PySem.W.keepIn K (.ref f) = true ∧ Binds K fd ps []
section
variable {X : Cx} {k j : Nat} {x : Str} {sp : Addr → Value → Option Addr → Sp} {a : Addr} {oe : Obj} {cls : Value} {d : Option Addr} {e : Expr} {es : List Expr} {t : TA} {p pos : Pos}
theorem pe_cE (c : CalE X.prog X.w X.K X.mg X.base k x sp) (hp : (a, oe) ∈ X.pn) (hz : Zc cls d oe) (hf : ∃ vs, oe.data = .fields vs) (hr : RoomH j X.A) (hk : k ≤ j) (hg : Gl X x) (ha : PA X (e :: es) t)
    (hdb : (x == ("__debug__" : Str)) = false := by decide) (he : starEach (e :: es) X.env = (false, eval e X.env) :: starEach es X.env := by rfl) (hpl : (backTo pos (starEach es X.env)).any (·.1) = false := by rfl) :
    PE X (.Call (.Name x p) (e :: es) [] pos) (tCallS (sp a cls d) (fun _ => C8.E0) t) := by
  obtain ⟨f, fd, ps, F, hm, kp, b⟩ := c.ex
  obtain ⟨hz1, hz2⟩ := hz
  subst hz1 hz2
  refine ⟨fun pins s σ H Q I h => ?_⟩
  refine wpAny_Call_Name_kw (ld_glob I hg hm ?_ hdb)
  refine PySem.W.callWith_K (h₀ := X.base) I.ok.mod.kin kp (thn (ha.run pos pins s σ H _ I h) fun us s1 ⟨vs, H1, I1, r, z⟩ => ⟨I1.kIn, ?_⟩) he hpl
  have hl : us.length = ps.length := by rw [← r.length]; exact F.len _ _ _ _ _ _ _ z
  have b1 := b s1 us I1.kIn (by rw [List.append_nil]; exact hl)
  rw [List.append_nil] at b1
  have P1 := I1.pin (a, oe) (List.mem_append_left _ hp)
  have pin : PinOk X.stack H1 s1 (a, oe) := ⟨P1.1, P1.2.1, fun hm => (List.mem_cons.mp (I1.stkSub a hm)).elim P1.2.2.1 P1.2.2.2.1, P1.2.2.2.2⟩
  refine wpAny_call (codeAny_mono (F.run X.A X.stack s1 H1 ⟨us, []⟩ us vs Q C8.E0 (a, oe) (hr.mono hk) pin hf I1.env0 b1 r z) fun r s' hq => ?_)
  cases r with
  | error e => exact hq.elim
  | ok fl => cases fl with
    | ret u => exact I1.after hq
    | next => exact hq.elim
    | brk => exact hq.elim
    | cont => exact hq.elim
end
section
variable {X : Cx} {a D : Addr} {dd : Option Addr} {oe : Obj} {f : Str}
theorem pin_inst {pins : List (Addr × Obj)} {σ : L2.St} {H : Hp} {s : Shared} {d : Addr} {fs : List (Str × V)} (hp : (a, oe) ∈ X.pn) (I : Inv X pins σ H s) (hz : Zc (.ref D) (some d) oe) (hf : ∃ vs, oe.data = .fields vs) (hd : H d = some (.xd fs)) :
    ∃ od, PySem.W.InstAt s.heap a oe D (some od) ∧ ∀ (n : Str) (v : V), fs.lookup n = some v → ∃ u, PySem.W.lookIn n od = some (some u) ∧ RelV v u := by
  obtain ⟨vs, hv⟩ := hf
  obtain ⟨mA, hns, hr⟩ := (show ObjOk X.prog X.w H s.heap d (.xd fs) from I.hok d _ hd)
  obtain ⟨od, ho, hl⟩ := lookIn_ns hns
  have hget := (I.pin (a, oe) (List.mem_append_left _ hp)).1
  refine ⟨od, ⟨hget, hz.1, by unfold PySem.W.notCls; rw [hv] <;> rfl, by rw [hz.2]; exact ho⟩, fun n v e => ?_⟩
  obtain ⟨u, hu, ru⟩ := RelO.some_of (v := v) (o := mA n) (by rw [← e]; exact hr n)
  exact ⟨u, by rw [hl, hu], ru⟩
/-- error.f -/
def tXp (a d : Addr) (f : Str) (te : TE) : TE := fun σ H Q => te σ H fun x H1 => x = .ref a ∧ ∃ (fs : List (Str × V)) (v : V), H1 d = some (.xd fs) ∧ fs.lookup f = some v ∧ Q v H1
theorem pe_xp {d : Addr} {e : Expr} {te : TE} {pos : Pos} (hp : (a, oe) ∈ X.pn) (C : XfC X.K D) (hno : PySem.W.findIn X.K (.ref D) f = some none) (hz : Zc (.ref D) (some d) oe) (hf : ∃ vs, oe.data = .fields vs) (he : PE X e te)
    (hb : attributeBase e f X.env (eval e X.env) = eval e X.env := by rfl) : PE X (.Attribute e f pos) (tXp a d f te) := by
  refine ⟨fun pins s σ H Q I h => attr_of hb (thn (he.run pins s σ H _ I h) fun u s1 hh => ?_)⟩
  obtain ⟨x, H1, I1, rx, rfl, fs, v, ed, l, q⟩ := hh
  cases rx
  obtain ⟨od, J, hl⟩ := pin_inst hp I1 hz hf ed
  obtain ⟨u, hu, ru⟩ := hl f v l
  exact HandSPX.exc_get I1.kIn J C.ga C.gg C.exC (PySem.W.findObj_own C.hdC hno rfl hu) (handed_of ru) ⟨v, H1, I1.tok _, ru, q⟩
/-- isinstance(error, c) -/
def rIsP (K : PySem.W.Frag) (D a d : Addr) : List V → Hp → VK → Prop := fun xs H Q => ∃ (c : V) (cv : Value) (b : Bool) (fs : List (Str × V)), xs = [.ref a, c] ∧ H d = some (.xd fs) ∧ (∀ u, RelV c u → u = cv) ∧ PySem.W.kitOne K (.ref D) cv = some b ∧ Q (.bl b) H
theorem call_isP {d : Addr} (hp : (a, oe) ∈ X.pn) (C : ExcC X.K D) (hz : Zc (.ref D) (some d) oe) (hf : ∃ vs, oe.data = .fields vs) : CallR X (.builtin "isinstance") (rIsP X.K D a d) := by
  intro pins s σ H xs us Q I r h
  obtain ⟨c, cv, b, fs, rfl, hd, hcv, e, q⟩ := h
  obtain ⟨u1, u2, rfl, r1, r2⟩ := vals2 r
  cases r1
  have ec := hcv _ r2
  subst ec
  obtain ⟨od, J, _⟩ := pin_inst hp I hz hf hd
  have hcl : (PySem.W.clsIn X.K D).isSome = true := by obtain ⟨cd, hc, _⟩ := PySem.W.any_some C.hd; rw [hc] <;> rfl
  exact PySem.W.kia_one (PySem.W.kitx_exc hcl C.hg C.hk C.hs C.ha C.hn C.ht C.hm) I.kIn J e (fun z => nomatch z) fun tk => ⟨.bl b, H, I.kept (t' := tk) fun _ _ z => z, rfl, q⟩
/-- isinstance(error, (c, ..)) -/
def rIsPT (K : PySem.W.Frag) (D a d : Addr) : List V → Hp → VK → Prop := fun xs H Q => ∃ (T : Addr) (cs : List Addr) (b : Bool) (fs : List (Str × V)), xs = [.ref a, .ref T] ∧ H T = some (.tup (cs.map V.ref)) ∧ H d = some (.xd fs) ∧ PySem.W.kitAny K (.ref D) (cs.map Value.ref) = some b ∧ Q (.bl b) H
theorem vals_refs : ∀ {cs : List Addr} {us : List Value}, Vals (cs.map V.ref) us → us = cs.map Value.ref
  | [], _, .nil => rfl
  | c :: cs, _, .cons r t => by
    cases r
    rw [vals_refs t]
    rfl
theorem call_isPT {d : Addr} (hp : (a, oe) ∈ X.pn) (C : ExcC X.K D) (hz : Zc (.ref D) (some d) oe) (hf : ∃ vs, oe.data = .fields vs) : CallR X (.builtin "isinstance") (rIsPT X.K D a d) := by
  intro pins s σ H xs us Q I r h
  obtain ⟨T, cs, b, fs, rfl, hT, hd, e, q⟩ := h
  obtain ⟨u1, u2, rfl, r1, r2⟩ := vals2 r
  cases r1
  cases (show u2 = Value.ref T from r2)
  obtain ⟨od, J, _⟩ := pin_inst hp I hz hf hd
  obtain ⟨_, its, rv, o, h1, h2, n, h3⟩ := (show ObjOk X.prog X.w H s.heap T (.tup (cs.map V.ref)) from I.hok T _ hT)
  have e3 := vals_refs rv
  subst e3
  obtain ⟨oc, od', dt, sl⟩ := o
  dsimp only at h2 h3
  subst h2 h3
  have hcl : (PySem.W.clsIn X.K D).isSome = true := by obtain ⟨cd, hc, _⟩ := PySem.W.any_some C.hd; rw [hc] <;> rfl
  exact PySem.W.kia_tup (PySem.W.kitx_exc hcl C.hg C.hk C.hs C.ha C.hn C.ht C.hm) I.kIn J h1 e (fun z => nomatch z) fun tk => ⟨.bl b, H, I.tok tk, rfl, q⟩
end
section
variable {prog : Program} {w : World} {A : Around} {E : Value → Shared → Prop} {s : Shared} {K : PySem.W.Frag} {x y C f : Addr} {ox oy : Obj} {odx ody : Option Obj}
open PySem.W in
theorem callSp_K {M : Model} {name : Str} {args : List Value} {Q : Option Value → Shared → Prop} (X : K.In s.heap) (I : InstAt s.heap x ox C odx) (hs : findIn K (.ref C) name = some (some (.ref f))) (hf : isFn K (.ref f) = true)
    (h : wpAny M A (call (.ref f) (.ref x :: args)) (fun v => Q (some v)) E s) : wpAny M A (callSpecial? (.ref x) name args) Q E s := by
  unfold callSpecial? specialOf
  refine wpAny_bind (wpAny_bind (I.type.here ((looks_findIn X hs).here ?_)))
  refine wpAny_holding (wpAny_bind ((bind_fn X _ (beq_iff_eq.mp hf)).here ?_))
  exact wpAny_bind (wpAny_mono h (fun v s' z => wpAny_pure z) fun _ _ z => z)
/-- a value that an operator's method may hand back -/
def NotNI (Q : Value → Shared → Prop) : Value → Shared → Prop := fun v s' => v ≠ .notImplemented ∧ Q v s'
open PySem.W in
theorem tryM_K {M : Model} {name : Str} {b : Value} {Q : Option Value → Shared → Prop} (X : K.In s.heap) (I : InstAt s.heap x ox C odx) (hs : findIn K (.ref C) name = some (some (.ref f))) (hf : isFn K (.ref f) = true)
    (h : wpAny M A (call (.ref f) [.ref x, b]) (NotNI fun v => Q (some v)) E s) : wpAny M A (tryMethod (.ref x) name b) Q E s := by
  unfold tryMethod
  refine wpAny_bind (callSp_K X I hs hf (wpAny_mono h (fun v s' ⟨n, z⟩ => ?_) fun _ _ z => z))
  cases v <;> first | exact (n rfl).elim | exact wpAny_pure z
open PySem.W in
theorem fills_K {M : Model} {h : Heap} {nm : String} {r : List Value} {cd : ClassData} (X : K.In h) (hc : clsIn K C = some cd) (hm : cd.mro = .ref C :: r) (hs : findIn K (.ref C) (PySem.dunder nm) = some (some (.ref f))) : Looks M h (fillsNumberSlot (.ref C) nm) true := by
  intro A Q E s k q
  have L1 : Looks M h (mroOf (.ref C)) (.ref C :: r) := by
    rw [← hm]
    exact fun A Q E s k q => wpAny_bind ((looks_clsIn X hc) A _ E s k (wpAny_pure q))
  have L2 := looks_findIn (M := M) X hs
  unfold fillsNumberSlot
  refine wpAny_bind (L1 A _ E s k ?_)
  unfold List.anyM
  refine wpAny_bind (show wpAny M A (List.anyM _ [PySem.dunder nm, PySem.dunderR nm]) _ E s from ?_)
  unfold List.anyM
  refine wpAny_bind (wpAny_bind (L2 A _ E s k ?_))
  exact wpAny_pure (wpAny_pure (wpAny_pure q))
open PySem.W in
theorem bin1_K {nm : String} {r : List Value} {cd : ClassData} {Q : Option Value → Shared → Prop} (X : K.In s.heap) (I : InstAt s.heap x ox C odx) (J : InstAt s.heap y oy C ody) (hc : clsIn K C = some cd) (hm : cd.mro = .ref C :: r)
    (hs : findIn K (.ref C) (PySem.dunder nm) = some (some (.ref f))) (hf : isFn K (.ref f) = true) (h : wpAny (model prog w) A (call (.ref f) [.ref x, .ref y]) (NotNI fun v => Q (some v)) E s) : wpAny (model prog w) A (binaryOp1 nm (.ref x) (.ref y)) Q E s := by
  have LF := fills_K (M := model prog w) X hc hm hs
  unfold binaryOp1
  refine wpAny_bind (I.type.here (wpAny_bind (J.type.here (wpAny_bind (LF.here ?_)))))
  simp only [beq_self_eq_true, if_true]
  refine wpAny_bind (wpAny_pure ?_)
  simp only [Bool.and_false, Bool.false_and, Bool.false_eq_true, if_false, pure_bind, if_true]
  refine wpAny_bind (tryM_K X I hs hf (wpAny_mono h (fun v s' ⟨n, z⟩ => ⟨n, wpAny_pure z⟩) fun _ _ z => z))
open PySem.W in
theorem bin_K {op : Operator} {r : List Value} {cd : ClassData} {Q : Value → Shared → Prop} (X : K.In s.heap) (I : InstAt s.heap x ox C odx) (J : InstAt s.heap y oy C ody) (hc : clsIn K C = some cd) (hm : cd.mro = .ref C :: r)
    (hs : findIn K (.ref C) (PySem.dunder op.info.2) = some (some (.ref f))) (hf : isFn K (.ref f) = true) (h : wpAny (model prog w) A (call (.ref f) [.ref x, .ref y]) (NotNI Q) E s) : wpAny (model prog w) A (binaryOp op (.ref x) (.ref y)) Q E s := by
  unfold binaryOp
  refine wpAny_holding (wpAny_bind (bin1_K X I J hc hm hs hf (wpAny_mono h (fun v s' ⟨n, z⟩ => ⟨n, wpAny_pure z⟩) fun _ _ z => z)))
open PySem.W in
theorem inv_K {Q : Value → Shared → Prop} (X : K.In s.heap) (I : InstAt s.heap x ox C odx) (hs : findIn K (.ref C) "__invert__" = some (some (.ref f))) (hf : isFn K (.ref f) = true)
    (h : wpAny (model prog w) A (call (.ref f) [.ref x]) Q E s) : wpAny (model prog w) A (unaryOp .Invert (.ref x)) Q E s := by
  unfold unaryOp
  exact wpAny_holding (wpAny_bind (callSp_K X I hs hf (wpAny_mono h (fun v s' z => wpAny_pure z) fun _ _ z => z)))
end
/-- an own operator's method -/
structure OpM (P : Program) (w : World) (K : PySem.W.Frag) (mg : Str → Option Value) (base : Heap) (k : Nat) (C : Addr) (nm : Str) (sp : Sp) : Prop where
  ex : ∃ (f : Addr) (fd : FuncData) (ps : List Str) (cd : ClassData) (r : List Value), FnOk P w K mg base (L2.CX P w) k f fd ps sp ∧ Binds K fd ps [] ∧ PySem.W.clsIn K C = some cd ∧ cd.mro = .ref C :: r ∧ PySem.W.findIn K (.ref C) nm = some (some (.ref f)) ∧ PySem.W.isFn K (.ref f) = true
def tOwnBin (C : Addr) (sp : Sp) (E : L2.St → XK) (ta tb : TE) : TE := fun σ H Q => ta σ H fun x H1 => tb σ H1 fun y H2 => ∃ a dx fs b dy gs, x = .ref a ∧ y = .ref b ∧ H2 a = some (.ins C dx fs) ∧ H2 b = some (.ins C dy gs) ∧ sp [.ref a, .ref b] H2 (fun v H3 => (∃ c : Addr, v = .ref c) ∧ Q v H3) (E σ)
def tOwnUn (C : Addr) (sp : Sp) (E : L2.St → XK) (ta : TE) : TE := fun σ H Q => ta σ H fun x H1 => ∃ a dx fs, x = .ref a ∧ H1 a = some (.ins C dx fs) ∧ sp [.ref a] H1 Q (E σ)
section
variable {X : Cx} {k j : Nat} {C : Addr} {sp : Sp} {W : WX} {a b : Expr} {ta tb : TE} {pos : Pos} {op : Operator}
theorem pe_ownbin (c : OpM X.prog X.w X.K X.mg X.base k C (PySem.dunder op.info.2) sp) (hr : Room j X.A) (hk : k ≤ j) (tk : Takes X W) (ha : PE X a ta) (hb : PE X b tb) : PE X (.BinOp a op b pos) (tOwnBin C sp (WE W) ta tb) := by
  obtain ⟨f, fd, ps, cd, r, F, bd, hc, hm, hs, hf⟩ := c.ex
  refine ⟨fun pins s σ H Q I h => wpAny_BinOp (binT ha hb I h fun v u s2 x y H2 I2 rx ry q => ?_)⟩
  obtain ⟨p, dx, fs, p', dy, gs, rfl, rfl, e1, e2, q⟩ := q
  cases rx
  cases ry
  obtain ⟨m1, J1, _⟩ := ins_get I2.hok e1
  obtain ⟨m2, J2, _⟩ := ins_get I2.hok e2
  obtain ⟨od1, J1, _⟩ := J1.look
  obtain ⟨od2, J2, _⟩ := J2.look
  refine bin_K I2.kIn J1 J2 hc hm hs hf (thn (run_fnS (E := WE W) (us := [Value.ref p, Value.ref p']) (vs := [V.ref p, V.ref p']) F (hr.mono hk) bd (passAt tk σ) I2 (.cons rfl (.cons rfl .nil)) q) fun v s3 hv => ?_)
  obtain ⟨z, H3, I3, rz, ⟨c', ez⟩, q3⟩ := hv
  subst ez
  obtain rfl : v = Value.ref c' := rz
  exact ⟨(by intro z; cases z), .ref c', H3, I3, rfl, q3⟩
theorem pe_owninv (c : OpM X.prog X.w X.K X.mg X.base k C "__invert__" sp) (hr : Room j X.A) (hk : k ≤ j) (tk : Takes X W) (ha : PE X a ta) : PE X (.UnaryOp .Invert a pos) (tOwnUn C sp (WE W) ta) := by
  obtain ⟨f, fd, ps, cd, r, F, bd, hc, hm, hs, hf⟩ := c.ex
  refine ⟨fun pins s σ H Q I h => UnaryOp_ (thn (ha.run pins s σ H _ I h) fun v s2 ⟨x, H2, I2, rx, q⟩ => ?_)⟩
  obtain ⟨p, dx, fs, rfl, e1, q⟩ := q
  cases rx
  obtain ⟨m1, J1, _⟩ := ins_get I2.hok e1
  obtain ⟨od1, J1, _⟩ := J1.look
  exact inv_K I2.kIn J1 hs hf (run_fnS (E := WE W) (us := [Value.ref p]) (vs := [V.ref p]) F (hr.mono hk) bd (passAt tk σ) I2 (.cons rfl .nil) q)
theorem i_ownbin {E : L2.St → XK} {σ : L2.St} {H : Hp} {Q : VK} (q : ta σ H fun x H1 => tb σ H1 fun y H2 => ∃ a dx fs b dy gs, x = .ref a ∧ y = .ref b ∧ H2 a = some (.ins C dx fs) ∧ H2 b = some (.ins C dy gs) ∧ sp [.ref a, .ref b] H2 (fun v H3 => (∃ c : Addr, v = .ref c) ∧ Q v H3) (E σ)) : tOwnBin C sp E ta tb σ H Q := q
theorem i_ownun {E : L2.St → XK} {σ : L2.St} {H : Hp} {Q : VK} (q : ta σ H fun x H1 => ∃ a dx fs, x = .ref a ∧ H1 a = some (.ins C dx fs) ∧ sp [.ref a] H1 Q (E σ)) : tOwnUn C sp E ta σ H Q := q
end
/-- C.m, a static method that keeps sp -/
structure StM (P : Program) (w : World) (K : PySem.W.Frag) (mg : Str → Option Value) (base : Heap) (k : Nat) (x : Str) (C : Addr) (m : Str) (sp : Sp) : Prop where
  ex : ∃ (f p : Addr) (fd : FuncData) (ps : List Str) (r : List Value), FnOk P w K mg base C8.CX0 k f fd ps sp ∧ Binds K fd ps [] ∧ mg x = some (.ref C) ∧ PySem.W.keepIn K (.ref f) = true ∧ PySem.W.specialIn K (.ref C) "__getattribute__" = some (some (.builtin "type.__getattribute__")) ∧ PySem.W.typeIn K (.ref C) = some (.type "type") ∧
    PySem.W.readsIn K C (.type "type") = true ∧ PySem.W.findCls K (.ref C) (.type "type") m = some (.get (.builtin "staticmethod.__get__") (.ref p) .none (.ref C)) ∧ PySem.W.recIn K p "staticmethod" = some (.ref f :: r) ∧ PySem.W.handedIn (.ref f) = true
section
variable {X : Cx} {k j : Nat} {x m : Str} {C : Addr} {sp : Sp} {e : Expr} {es : List Expr} {t : TA} {p1 p2 pos : Pos}
theorem pe_stat {pl : Sem Bool} (c : StM X.prog X.w X.K X.mg X.base k x C m sp) (hr : Room j X.A) (hk : k ≤ j) (hg : Gl X x) (ha : PA X (e :: es) t)
    (hdb : (x == ("__debug__" : Str)) = false := by decide) (he : starEach (e :: es) X.env = (false, eval e X.env) :: starEach es X.env := by rfl) (hpl : (backTo pos (starEach es X.env)).any (·.1) = false := by rfl)
    (ht : eval (.Call (.Attribute (.Name x p1) m p2) (e :: es) [] pos) X.env = (do
      let ov ← eval (.Name x p1) X.env
      standAt p2.atName
      let (f, first) ← holding [ov] (getMethod ov m pl)
      callWith pos f first (backTo pos (starEach (e :: es) X.env)) (backToKw pos (keywordEach [] X.env))) := by rfl) : PE X (.Call (.Attribute (.Name x p1) m p2) (e :: es) [] pos) (tCall sp [] C8.E0 t) := by
  obtain ⟨f, p, fd, ps, r, F, b, hm, kp, hga, hty, hrd, hfc, hrec, hv⟩ := c.ex
  refine ⟨fun pins s σ H Q I h => ?_⟩
  refine PySem.W.methodCall_KW (pl := pl) (ld_glob I hg hm ?_ hdb) ht
  obtain ⟨ml, fr⟩ := I.fr
  refine PySem.W.method_of_cls fr I.ok.mod.kin hga (PySem.W.cls_sm fr I.ok.mod.kin hty hrd hfc hrec hv ?_)
  exact PySem.W.callWith_K (h₀ := X.base) I.ok.mod.kin kp (thn (ha.run pos pins _ σ H _ (I.tok _) h) fun us s1 ⟨vs, H1, I1, r1, q⟩ => ⟨I1.kIn, run_fn F (hr.mono hk) b .nil C8.pass0 I1 r1 q⟩) he hpl
end
theorem i_mt {C : Addr} {m : Str} {sp : Sp} {E : XK} {ta : TE} {t : TA} {σ : L2.St} {H : Hp} {Q : VK} (q : ta σ H fun x H1 => ∃ a dx fs, x = .ref a ∧ H1 a = some (.ins C dx fs) ∧ fs.lookup m = none ∧ t σ H1 fun vs H2 => sp (x :: vs) H2 Q E) : tMeth C m sp [] E ta t σ H Q := by
  refine cast ?_ q
  unfold tMeth
  simp only [List.append_nil]
theorem pgTupK {X : Cx} (K : PySem.W.Frag) (h : X.K = K) {es : List Expr} {k : Nat} {t : TGs} {n : Nat} {pos : Pos} (hc : X.calm = true) (hg : PGs X es t) (hn : (assignEach es X.env).length = n := by rfl) (hst : (assignEach es X.env).findIdx? (·.1) = none := by rfl) : PG X (.Tuple es k pos) (gTup K n t) := by
  subst h
  exact pg_tup hc hg hn hst
theorem SX_inj {a b : List Nat} (h : SX.S a = SX.S b) : a = b := by
  have e : (SX.S a).cps.toList = (SX.S b).cps.toList := by rw [h]
  simpa [SX.S] using e
theorem i_xp {a d : Addr} {f : Str} {te : TE} {σ : L2.St} {H : Hp} {Q : VK} (q : te σ H fun x H1 => x = .ref a ∧ ∃ (fs : List (Str × V)) (v : V), H1 d = some (.xd fs) ∧ fs.lookup f = some v ∧ Q v H1) : tXp a d f te σ H Q := q
theorem roomS {k : Nat} {A : Around} {v : Option Value} (hr : Room k A) : RoomH k (A.mark v) := ⟨hr.dp, hr.un⟩
end X7
namespace U
open PySem PySem.Spec PyProof.Rows L2
section
variable {S : AS} {H0 H H' H3 H4 : Hp} {D E : Addr} {m n i j u : Nat}
/-- a list of whole numbers below n that grows at E -/
def CelInv (S : AS) (H : Hp) (E : Addr) (n i : Nat) (H' : Hp) : Prop := Ev S H H' ∧ ∃ ns : List Nat, ns.length = i ∧ (∀ t ∈ ns, t < n) ∧ H' E = some (.lst (ns.map vn))
/-- a list of such lists, each of m, that grows at D -/
def RowInv (S : AS) (H : Hp) (D : Addr) (m n i : Nat) (H' : Hp) : Prop := Ev S H H' ∧ ∃ (bs : List Addr) (rws : Rws), H' D = some (.lst (bs.map V.ref)) ∧ Paired (fun a r => Ints (fun b => S b ∨ b = D) H' a r) bs rws ∧ rws.length = i ∧ ∀ r ∈ rws, r.length = m ∧ ∀ t ∈ r, t < n
theorem CelInv.start (hS : Srcs S H) (hE : H E = none) : CelInv S H E n 0 (upd H E (.lst [])) := ⟨.laid hS hE, [], rfl, by simp, upd_same⟩
theorem CelInv.src (c : CelInv S H E n i H') : Srcs S H' := c.1.src
theorem CelInv.add (c : CelInv S H E n j H3) (hS : Srcs S H) (hE : H E = none) (e : Ev S H3 H4) (hu : u < n) (hj : j < 1000000) : ∃ acc, H4 E = some (.lst acc) ∧ acc.length < sizeLine ∧ CelInv S H E n (j + 1) (upd H4 E (.lst (acc ++ [vn u]))) := by
  obtain ⟨e3, ns, hns, hns2, hE3⟩ := c
  refine ⟨_, e.at (hS.notin hE) hE3, szlt (by rw [List.length_map]; omega), Ev.put hS (e3.trans e) hE, ns ++ [u], by simp [hns], fun z hz => ?_, by rw [upd_same, List.map_append]; rfl⟩
  rcases List.mem_append.mp hz with hz | hz
  · exact hns2 z hz
  · rw [List.mem_singleton.mp hz]; exact hu
theorem RowInv.start (hS : Srcs S H) (hD : H D = none) : RowInv S H D m n 0 (upd H D (.lst [])) := ⟨.laid hS hD, [], [], upd_same, .nil, rfl, by simp⟩
theorem RowInv.src (c : RowInv S H D m n i H') : Srcs S H' := c.1.src
theorem RowInv.step (c : RowInv S H D m n i H') (hS : Srcs S H) (hD : H D = none) (hE : H' E = none) (hc : CelInv S H' E n m H3) (hi : i < 1000000) : ∃ acc, H3 D = some (.lst acc) ∧ acc.length < sizeLine ∧ RowInv S H D m n (i + 1) (upd H3 D (.lst (acc ++ [.ref E]))) := by
  obtain ⟨e2', bs, rws, hD2, hbs, hlen, hrw⟩ := c
  obtain ⟨e3, ns, hns, hns2, hE3⟩ := hc
  have hED : E ≠ D := fun z => by rw [z, hD2] at hE; cases hE
  refine ⟨_, e3.at (hS.notin hD) hD2, szlt (by rw [List.length_map, hbs.length]; omega), Ev.put hS (e2'.trans e3) hD, bs ++ [E], rws ++ [ns], by rw [upd_same, List.map_append]; rfl, ?_, by simp [hlen], fun r hr => ?_⟩
  · have kk : Kp (fun b => S b ∨ b = D) H' (upd H3 D (.lst (bs.map V.ref ++ [V.ref E]))) := fun b u n z => by
      rw [upd_ne (fun y => n (.inr y))]
      exact e3.kp b u (fun y => n (.inl y)) z
    exact U.Paired.snoc (Paired.mapP hbs fun b r z => z.kp kk fun _ z => z) ⟨fun z => z.elim (e2'.src.notin hE) hED, false, by rw [upd_ne hED]; exact hE3⟩
  · rcases List.mem_append.mp hr with hr | hr
    · exact hrw r hr
    · rw [List.mem_singleton.mp hr]; exact ⟨hns, hns2⟩
/-- the rows are there: a machine's moves -/
theorem RowInv.done (c : RowInv S H D m n i H') (hS : Srcs S H) (hD : H D = none) : ∃ rws, Rows S H' D rws ∧ rws.length = i ∧ ∀ r ∈ rws, r.length = m ∧ ∀ t ∈ r, t < n := by
  obtain ⟨e2', bs, rws, hD2, hbs, hlen, hrw⟩ := c
  exact ⟨rws, ⟨hS.notin hD, false, bs, hD2, Paired.mapP hbs fun b r z => z.weak fun _ y => .inl y⟩, hlen, hrw⟩
theorem wf_of {rws : Rws} (hlen : rws.length = n) (h : ∀ r ∈ rws, r.length = m ∧ ∀ t ∈ r, t < n) (h0 : 0 < n) (h1 : n ≤ 60) (hm : m ≤ 3) : WF m rws := .of (by omega) (by omega) hm (fun r hr => (h r hr).1) (fun r hr t ht => by rw [hlen]; exact (h r hr).2 t ht)
end
def tInts : List Int → TA
  | [] => tNil
  | x :: r => tCons (tC (.int x)) (tInts r)
def tMenu : List (List Int) → TA
  | [] => tNil
  | x :: r => tCons (tTup (tInts x)) (tMenu r)
theorem tInts_read {σ : L2.St} : ∀ (xs : List Int) (H : Hp) (Q : List V → Hp → Prop), Q (xs.map V.int) H → tInts xs σ H Q
  | [], _, _, q => q
  | x :: r, H, Q, q => (show tCons (tC (.int x)) (tInts r) σ H Q from tInts_read r H (fun xs H2 => Q (.int x :: xs) H2) q)
theorem tMenu_read {σ : L2.St} : ∀ (L : List (List Int)) (H : Hp) (Q : List V → Hp → Prop), (∀ xs ∈ L, xs.length ≤ 1000) → (∀ as H', Same H H' → Paired (fun a (xs : List Int) => H a = none ∧ H' a = some (.tup (xs.map V.int))) as L → Q (as.map V.ref) H') → tMenu L σ H Q
  | [], H, Q, _, q => q [] H (Same.refl H) .nil
  | x :: r, H, Q, hl, q => (show tCons (tTup (tInts x)) (tMenu r) σ H Q from tInts_read x H _ ⟨szl (by rw [List.length_map]; have := hl x (List.mem_cons_self ..); omega), fun p hp =>
      tMenu_read r _ _ (fun xs hx => hl xs (List.mem_cons_of_mem _ hx)) fun as H' s h => q (p :: as) H' ((same_laid hp).trans s) (.cons ⟨hp, s _ _ upd_same⟩ (Paired.mapP h fun a xs z => ⟨same_free (same_laid hp) z.1, z.2⟩))⟩)
theorem menu_read {σ : L2.St} {H : Hp} {Q : VK} (L : List (List Int)) (hl : ∀ xs ∈ L, xs.length ≤ 1000) (hL : L.length ≤ 1000) (q : ∀ as p H', Same H H' → H p = none → H' p = some (.lst (as.map V.ref)) → Paired (fun a (xs : List Int) => H' a = some (.tup (xs.map V.int))) as L → Q (.ref p) H') : tLst (tMenu L) σ H Q := by
  refine i_lst (tMenu_read L H _ hl fun as H' s h => ⟨szl (by rw [List.length_map, h.length]; omega), fun p hp => ?_⟩)
  have s1 : Same H' (upd H' p (.lst (as.map V.ref))) := same_laid hp
  exact q as p _ (s.trans s1) (same_free s hp) upd_same (Paired.mapP h fun a xs z => s1 _ _ z.2)
def dStrsL (zs : List Str) : PyData := .list (zs.map PyData.str)
theorem dp_strs {K : PySem.W.Frag} {H : Hp} : ∀ zs : List Str, DpAll K H (zs.map V.str) (zs.map PyData.str)
  | [] => .nil
  | z :: zs => .cons (.str z) (dp_strs zs)
theorem eqvAll_strs : ∀ a b : List Str, PyData.eqvAll (a.map PyData.str) (b.map PyData.str) = decide (a = b)
  | [], [] => by simp [PyData.eqvAll]
  | [], _ :: _ => by simp [PyData.eqvAll]
  | _ :: _, [] => by simp [PyData.eqvAll]
  | x :: a, y :: b => by
    rw [List.map_cons, List.map_cons, PyData.eqvAll, eqvAll_strs a b, PyData.eqv]
    by_cases h : x = y
    · subst h; simp
    · simp [h]
theorem lay_strs : ∀ a : List Str, (∀ z ∈ a, PyData.strOk z = true) → PyData.canLayAll0 (a.map PyData.str) = true ∧ PyData.depthAll (a.map PyData.str) = 0
  | [], _ => by simp [PyData.canLayAll0, PyData.depthAll]
  | x :: a, hl => by
    have h := lay_strs a fun z hz => hl z (List.mem_cons_of_mem _ hz)
    rw [List.map_cons, PyData.canLayAll0, PyData.depthAll, h.1, h.2]
    simp [PyData.canLay0, PyData.depth, hl x (List.mem_cons_self ..)]
theorem i_eqStrsL {K : PySem.W.Frag} {H : Hp} {Q : VK} {p q : Addr} {a b : List Str} (hla : ∀ z ∈ a, PyData.strOk z = true) (hlb : ∀ z ∈ b, PyData.strOk z = true) (h : H p = some (.lst (a.map V.str))) (h' : H q = some (.lst (b.map V.str))) (k : Q (.bl (decide (a = b))) H) : rEqD K (.ref p) (.ref q) H Q := by
  have sh : ∀ c : List Str, (∀ z ∈ c, PyData.strOk z = true) → SeqAt.shaped (dStrsL c) = true := fun c hc => by
    have h := lay_strs c hc
    unfold SeqAt.shaped
    rw [dStrsL, PyData.canLay0, PyData.depth, h.1, h.2]
    decide
  exact ⟨dStrsL a, dStrsL b, .lst (SqL.of h) (dp_strs a), .lst (SqL.of h') (dp_strs b), sh a hla, sh b hlb, by rw [dStrsL, dStrsL, PyData.eqv, eqvAll_strs]; exact k⟩
theorem i_neStrsL {K : PySem.W.Frag} {H : Hp} {Q : VK} {p q : Addr} {a b : List Str} (hla : ∀ z ∈ a, PyData.strOk z = true) (hlb : ∀ z ∈ b, PyData.strOk z = true) (h : H p = some (.lst (a.map V.str))) (h' : H q = some (.lst (b.map V.str))) (k : Q (.bl (!decide (a = b))) H) : rNeD K (.ref p) (.ref q) H Q := by
  have sh : ∀ c : List Str, (∀ z ∈ c, PyData.strOk z = true) → SeqAt.shaped (dStrsL c) = true := fun c hc => by
    have h := lay_strs c hc
    unfold SeqAt.shaped
    rw [dStrsL, PyData.canLay0, PyData.depth, h.1, h.2]
    decide
  exact ⟨dStrsL a, dStrsL b, .lst (SqL.of h) (dp_strs a), .lst (SqL.of h') (dp_strs b), sh a hla, sh b hlb, by rw [dStrsL, dStrsL, PyData.eqv, eqvAll_strs]; exact k⟩
end U
namespace U
open PySem PySem.Spec PyProof.Rows L2
theorem menu_at {H : Hp} {as : List Addr} {L : List (List Int)} (h : Paired (fun a (xs : List Int) => H a = some (.tup (xs.map V.int))) as L) {d : Nat} (hd : d < L.length) : ∃ a xs, as[d]? = some a ∧ xs ∈ L ∧ H a = some (.tup (xs.map V.int)) := by
  obtain ⟨xs, hx⟩ : ∃ xs, L[d]? = some xs := ⟨_, List.getElem?_eq_getElem hd⟩
  obtain ⟨a, ha, hr⟩ := Paired.at1 h hx
  exact ⟨a, xs, ha, List.mem_of_getElem? hx, hr⟩
theorem Ev.tup {S : AS} {H H' : Hp} {a : Addr} {xs : List V} (hS : Srcs S H) (e : Ev S H H') (h : H a = some (.tup xs)) : H' a = some (.tup xs) := e.at (hS.nottup h) h
end U
namespace U
open PySem PySem.Spec PyProof.Rows L2
/-- an ascending list of whole numbers that grows at G -/
def FilInv (S : AS) (H : Hp) (G : Addr) (i : Nat) (H' : Hp) : Prop := Ev S H H' ∧ ∃ gd : List Nat, H' G = some (.lst (gd.map vn)) ∧ gd.Pairwise (· < ·) ∧ (∀ x ∈ gd, x < i) ∧ gd.length ≤ i
section
variable {S : AS} {H H' H3 : Hp} {G : Addr} {i : Nat}
theorem FilInv.start (hS : Srcs S H) (hG : H G = none) : FilInv S H G 0 (upd H G (.lst [])) := ⟨.laid hS hG, [], upd_same, .nil, by simp, Nat.le_refl _⟩
theorem FilInv.src (z : FilInv S H G i H') : Srcs S H' := z.1.src
theorem FilInv.add (z : FilInv S H G i H') (hS : Srcs S H) (hG : H G = none) (e3 : Ev S H' H3) (hi : i < 1000000) : ∃ acc, H3 G = some (.lst acc) ∧ acc.length < sizeLine ∧ FilInv S H G (i + 1) (upd H3 G (.lst (acc ++ [vn i]))) := by
  obtain ⟨e2, gd, hG2, hp, hlt, hle⟩ := z
  refine ⟨_, e3.at (hS.notin hG) hG2, szlt (by rw [List.length_map]; omega), Ev.put hS (e2.trans e3) hG, gd ++ [i], by rw [upd_same, List.map_append]; rfl, ?_, fun y hy => ?_, by simp; omega⟩
  · rw [List.pairwise_append]
    exact ⟨hp, by simp, fun y hy z hz => by rw [List.mem_singleton.mp hz]; exact hlt y hy⟩
  · rcases List.mem_append.mp hy with hy | hy
    · have := hlt y hy; omega
    · rw [List.mem_singleton.mp hy]; omega
theorem FilInv.skip (z : FilInv S H G i H') (hS : Srcs S H) (hG : H G = none) (e3 : Ev S H' H3) : FilInv S H G (i + 1) H3 := by
  obtain ⟨e2, gd, hG2, hp, hlt, hle⟩ := z
  exact ⟨e2.trans e3, gd, e3.at (hS.notin hG) hG2, hp, fun y hy => by have := hlt y hy; omega, by omega⟩
theorem FilInv.done (z : FilInv S H G i H') (hS : Srcs S H) (hG : H G = none) : ∃ gd, Ints S H' G gd ∧ GOK i gd := by
  obtain ⟨e2, gd, hG2, hp, hlt, hle⟩ := z
  exact ⟨gd, ⟨hS.notin hG, false, hG2⟩, hp, hlt⟩
end
theorem GOK.up {n k : Nat} {gd : List Nat} (g : GOK n gd) (h : n ≤ k) : GOK k gd := ⟨g.inc, fun x hx => Nat.lt_of_lt_of_le (g.lt x hx) h⟩
theorem Mach.srcs {S : AS} {H H' : Hp} {p : Addr} {rs : Rws} {gd : List Nat} (h : Mach (Old H) H' p rs gd) (hS : Srcs S H) : Mach S H' p rs gd := h.weak fun _ z => hS.old z
end U
namespace X
open PySem PySem.Spec PyProof.Rows L2 C8 U
open X7
def top (i : Nat) : Stmt := PySem.Challenge.pw_untoldlots_k09_whole_joins.main.body.getD i (.Pass ⟨0, 0, 0, 0⟩)
def SMALL : Str := "abcdefghijklmnopqrstuvwxyz"
/-- the error classes -/
structure Er where
  LotsError : Addr
  WrongThing : Addr
  WrongItem : Addr
  TooMany : Addr
  Unlike : Addr
  NoName : Addr
/-- what the written part says of an error class at E that holds its __init__ -/
structure ErF (K : PySem.W.Frag) (r : Er) (E : Addr) (bT bU : Bool) : Prop where
  ex : PySem.W.exmOne K (.ref E) (.ref r.LotsError) = some true
  xc : ExcC K E
  xf : XfC K E
  nw : PySem.W.findIn K (.ref E) "what" = some none
  kv : PySem.W.kitOne K (.ref E) (.type "ValueError") = some true
  kt : PySem.W.kitOne K (.ref E) (.ref r.TooMany) = some bT
  ku : PySem.W.kitOne K (.ref E) (.ref r.Unlike) = some bU
  ko : PySem.W.kitAny K (.ref E) [.ref r.NoName, .ref r.WrongItem, .ref r.WrongThing] = some false
/-- what the top leaves -/
structure Txt (K : PySem.W.Frag) (mg : Str → Option Value) (C : Addr) (r : Er) : Prop where
  b_int : mg "int" = none
  b_len : mg "len" = none
  b_abs : mg "abs" = none
  b_range : mg "range" = none
  b_tuple : mg "tuple" = none
  b_list : mg "list" = none
  b_isinstance : mg "isinstance" = none
  b_all : mg "all" = none
  b_any : mg "any" = none
  b_enumerate : mg "enumerate" = none
  b_min : mg "min" = none
  b_str : mg "str" = none
  b_bool : mg "bool" = none
  b_set : mg "set" = none
  b_repr : mg "repr" = none
  b_ValueError : mg "ValueError" = none
  b_super : mg "super" = none
  c_MOST_ROOMS : ∃ u, mg "MOST_ROOMS" = some u ∧ RelV (.int 60) u
  c_TEXT_LETTERS : ∃ u, mg "TEXT_LETTERS" = some u ∧ RelV (.int 40) u
  c_SMALL : ∃ u, mg "SMALL" = some u ∧ RelV (.str SMALL) u
  cl : Cls K C
  nA : NoAttr K C "alphabet"
  nM : NoAttr K C "moves"
  nG : NoAttr K C "good"
  mg_Reader : mg "Reader" = some (.ref C)
  ins : InsC K C
  ne : PySem.W.findIn K (.ref C) "__ne__" = some (some (.builtin "object.__ne__"))
  mo : PySem.W.mroIn K C (.type "object") = some true
  kl : PySem.W.kitOne K (.ref C) (.type "list") = some false
  mg_LotsError : mg "LotsError" = some (.ref r.LotsError)
  mg_WrongThing : mg "WrongThing" = some (.ref r.WrongThing)
  mg_WrongItem : mg "WrongItem" = some (.ref r.WrongItem)
  mg_TooMany : mg "TooMany" = some (.ref r.TooMany)
  mg_Unlike : mg "Unlike" = some (.ref r.Unlike)
  mg_NoName : mg "NoName" = some (.ref r.NoName)
  eT : ErF K r r.TooMany true false
  eU : ErF K r r.Unlike false true
end X
namespace X
open PySem PySem.Spec PyProof.Rows L2 C8 U X7
local macro_rules | `(tactic| walk_at "hp") => `(tactic| first
  | assumption | exact upd_same
  | (rw [upd_ne (by first | assumption | (apply Ne.symm; assumption))]; walk_at "hp"))
local macro_rules | `(tactic| walk_at "sd") => `(tactic| first
  | assumption | exact ⟨by omega, by omega⟩ | exact Or.inl ⟨by omega, by omega⟩ | exact Or.inr ⟨by omega, by omega⟩
  | (show (0 : Int) < _; omega) | (show (0 : Int) ≤ _; omega) | (show _ ≠ (0 : Int); omega))
local macro_rules | `(tactic| walk_at "st") => `(tactic| first
  | with_reducible refine i_seq ?_ | with_reducible refine i_asg ?_ | with_reducible refine i_C ?_
  | ((with_reducible refine i_var (v := ?v) ?e ?_); (case e => exact rfl))
  | ((with_reducible refine i_name (σ' := ?v) ?e ?_); (case e => exact rfl))
  | with_reducible refine i_op ?_ | with_reducible refine i_un ?_ | with_reducible refine i_rI0 ?_ | with_reducible refine i_rU ?_
  | ((with_reducible refine i_rI ?c ?_); (case c => walk_at "sd"))
  | with_reducible refine i_eqI ?_ | with_reducible refine i_neI ?_ | with_reducible refine i_eqS ?_ | with_reducible refine i_neS ?_ | with_reducible refine i_eqB ?_ | with_reducible refine i_neB ?_
  | with_reducible refine i_for ?_ | with_reducible refine i_lc ?_ | with_reducible refine i_iSeq ?_ | with_reducible refine i_iRng1 ?_ | with_reducible refine i_iRng2 ?_ | with_reducible refine i_iStr ?_ | with_reducible refine i_iEnumS ?_ | with_reducible refine i_iEnumR ?_
  | with_reducible refine i_chain ?_ | with_reducible refine ex_str ?_ | with_reducible refine ex_str1 ?_ | with_reducible refine i_m1 ?_ | with_reducible refine i_bms ?_
  | with_reducible refine i_CB ?_ | with_reducible refine i_nil ?_ | with_reducible refine i_cons ?_ | with_reducible refine i_call ?_ | with_reducible refine i_make ?_
  | with_reducible refine i_ret ?_ | with_reducible refine i_retN ?_ | with_reducible refine i_drop ?_ | with_reducible refine i_ifS ?_ | with_reducible refine i_test ?_ | with_reducible refine i_tB ?_
  | with_reducible refine i_and ?_ | with_reducible refine i_or ?_ | with_reducible refine i_not ?_ | with_reducible refine i_andV ?_ | with_reducible refine i_orV ?_ | with_reducible refine i_notV ?_ | with_reducible refine i_if ?_
  | with_reducible refine i_tup ?_ | with_reducible refine i_lst ?_ | with_reducible refine i_sub ?_ | with_reducible refine i_next ?_ | with_reducible refine i_fld ?_ | with_reducible refine i_bm ?_
  | with_reducible refine iteIN ?_ | with_reducible refine iteF ?_ | with_reducible refine iteT ?_ | with_reducible refine iteNF ?_ | with_reducible refine iteNT ?_
  | ((with_reducible refine i_wipe ?e ?_); (case e => exact rfl)) | with_reducible refine i_yes ?_ | with_reducible refine ex_bl ?_ | with_reducible refine i_int1 ?_ | with_reducible refine ex_int ?_
  | ((with_reducible refine i_lenN ?h ?_); (case h => walk_at "hp"))
  | with_reducible refine i_sfld ?_ | with_reducible refine i_dget ?_ | with_reducible refine i_din ?_ | with_reducible refine i_dnotin ?_ | with_reducible refine i_dput ?_ | with_reducible refine i_dnewK ?_ | with_reducible refine i_disp1 ?_
  | with_reducible refine i_nget ?_ | with_reducible refine i_nin ?_ | with_reducible refine i_nnotin ?_ | with_reducible refine i_nput ?_ | with_reducible refine i_dnewN ?_
  | with_reducible refine i_callS ?_ | with_reducible refine i_ownbin ?_ | with_reducible refine i_ownun ?_ | with_reducible refine i_raiseE ?_ | with_reducible refine i_mt ?_ | with_reducible refine i_xp ?_
  | with_reducible refine i_exS ?_ | with_reducible refine i_sl ?_ | with_reducible refine i_noPart ?_ | with_reducible refine i_part ?_ | with_reducible refine ex_intV ?_ | with_reducible refine i_lenSetG ?_ | with_reducible refine i_break ?_ | with_reducible refine i_isN ?_ | with_reducible refine i_notN ?_ | with_reducible refine iteNon ?_ | with_reducible refine iteNonN ?_ | with_reducible refine iteRefN ?_ | with_reducible refine iteRefNN ?_ | with_reducible refine iteStrN ?_ | with_reducible refine iteStrNN ?_
  | ((with_reducible refine i_gTup2 (x := ?x) (y := ?y) ?h ?e ?_); (case h => walk_at "hp"); (case e => rfl))
  | ((with_reducible refine i_gTup3 (x := ?x) (y := ?y) (z := ?z) ?h ?e ?_); (case h => walk_at "hp"); (case e => rfl))
  | with_reducible refine i_inSg ?_ | with_reducible refine i_notInSg ?_
  | with_reducible refine i_bmStr ?_ | ((with_reducible refine i_bmL (xs := ?x) ?h ?_); (case h => walk_at "hp"))
  | ((with_reducible refine i_lenL (xs := ?x) ?h ?_); (case h => walk_at "hp"))
  | ((with_reducible refine i_lenT (xs := ?x) ?h ?_); (case h => walk_at "hp"))
  | ((with_reducible refine i_ixL (xs := ?x) (v := ?v) ?h ?e ?_); (case h => walk_at "hp"); (case e => rfl))
  | ((with_reducible refine i_ixT (xs := ?x) (v := ?v) ?h ?e ?_); (case h => walk_at "hp"); (case e => rfl))
  | ((with_reducible refine i_setL (xs := ?x) (j := ?v) ?h ?e ?_); (case h => walk_at "hp"); (case e => rfl)))
local macro_rules | `(tactic| walk_at "go") => `(tactic| repeat walk_at "st")
abbrev s_law_pick : Stmt := top 37
theorem sc_law_pick : FnScope ["source", "many", "digit", "mixed"] ["source", "many"] (fnScope s_law_pick) := ⟨rfl, rfl, rfl, by decide +kernel, rfl, by decide +kernel, by decide +kernel⟩
def sp_law_pick : Sp := fun vs H Q _ => ∃ (S : AS) (a : Addr) (m : Int), vs = [.ref a, .int m] ∧ S a ∧ Srcs S H ∧ 0 < m ∧ m < 1073741824 ∧ ∀ (d : Int) (H' : Hp), 0 ≤ d → d < m → Ev S H H' → Q (.int d) H'
section
variable {P : Program} {w : World} {K : PySem.W.Frag} {mg : Str → Option Value} {base : Heap} {C : Addr} {r : Er}
set_option maxHeartbeats 4000000 in
theorem ok_law_pick {f : Addr} {fd : FuncData} (F : Def K mg "_law_pick" s_law_pick f fd) (T : Txt K mg C r) (b : Binds K fd ["source", "many"] []) : Cal P w K mg base 1 "_law_pick" (sp_law_pick) [] := by
  refine cal0 F b .nil sc_law_pick (fun vs H Q E h => ?_) (fun cdv A outer s H vs Q E hr h => ?_)
  · obtain ⟨_, _, _, rfl, _⟩ := h
    rfl
  · obtain ⟨S, a, m, rfl, ha, hS, h0, h1, k⟩ := h
    refine ⟨_, (pss_cons (ps_if (pt_cmpR op_gt (pe_ix (ixK K rfl) (pv 0) pe_int (fun _ _ => rfl)) pe_int (nomark _)) (pss_cons (ps_set (i := 2) sc_law_pick.nd rfl (by first | exact Or.inl rfl | exact Or.inr rfl) (pe_op op_mod (pe_callTy int1 (by rfl) T.b_int (by decide +kernel) (pa_cons (pe_ix (ixK K rfl) (pv 0) pe_int (fun _ _ => rfl)) pa_nil)) (pv 1)))
        (pss_cons (ps_asg (pe_op op_fdiv (pe_ix (ixK K rfl) (pv 0) pe_int (fun _ _ => rfl)) (pv 1)) (pg_sub (pv 0) pe_int set_list))
        (pss_one (ps_ret (pv 2))))) pss_nil)
        (pss_cons (ps_asg (pe_op op_add (pe_ix (ixK K rfl) (pv 0) pe_int (fun _ _ => rfl)) pe_int) (pg_sub (pv 0) pe_int set_list))
        (pss_cons (ps_set (i := 3) sc_law_pick.nd rfl (by first | exact Or.inl rfl | exact Or.inr rfl) (pe_op op_mod (pe_callTy int1 (by rfl) T.b_int (by decide +kernel) (pa_cons (pe_op op_mul (pe_op op_add (pe_ix (ixK K rfl) (pv 0) pe_int (fun _ _ => rfl)) (pe_op op_mul pe_int (pe_ix (ixK K rfl) (pv 0) pe_int (fun _ _ => rfl)))) pe_int) pa_nil)) pe_int))
        (pss_cons (ps_set (i := 3) sc_law_pick.nd rfl (by first | exact Or.inl rfl | exact Or.inr rfl) (pe_op op_mod (pe_callTy int1 (by rfl) T.b_int (by decide +kernel) (pa_cons (pe_op op_add (pe_op op_add (pe_op op_mul (pv 3) (pv 3)) (pe_op op_mul pe_int (pe_ix (ixK K rfl) (pv 0) pe_int (fun _ _ => rfl)))) (pe_ix (ixK K rfl) (pv 0) pe_int (fun _ _ => rfl))) pa_nil)) pe_int))
        (pss_cons (ps_set (i := 3) sc_law_pick.nd rfl (by first | exact Or.inl rfl | exact Or.inr rfl) (pe_op op_mod (pe_callTy int1 (by rfl) T.b_int (by decide +kernel) (pa_cons (pe_op op_add (pe_op op_mul (pv 3) pe_int) pe_int) pa_nil)) pe_int))
        (pss_cons (ps_set (i := 3) sc_law_pick.nd rfl (by first | exact Or.inl rfl | exact Or.inr rfl) (pe_op op_mod (pe_callTy int1 (by rfl) T.b_int (by decide +kernel) (pa_cons (pe_op op_add (pe_op op_mul (pv 3) (pv 3)) (pv 3)) pa_nil)) pe_int))
        (pss_one (ps_ret (pe_op op_mod (pe_callTy int1 (by rfl) T.b_int (by decide +kernel) (pa_cons (pe_op op_fdiv (pv 3) pe_int) pa_nil)) (pv 1)))))))))), ?_⟩
    obtain ⟨x, y, z, hs⟩ := hS a ha
    walk_at "go"
    refine iteD (fun hx => ?_) (fun hx => ?_)
    · walk_at "go"
      exact k _ _ (Int.emod_nonneg _ (by omega)) (Int.emod_lt_of_pos _ h0) (.wrote hS ha)
    · walk_at "go"
      exact k _ _ (Int.emod_nonneg _ (by omega)) (Int.emod_lt_of_pos _ h0) (.wrote hS ha)
end
abbrev s_is_integer : Stmt := top 14
theorem sc_is_integer : FnScope ["thing", "low", "high"] ["thing", "low", "high"] (fnScope s_is_integer) := ⟨rfl, rfl, rfl, by decide +kernel, rfl, by decide +kernel, by decide +kernel⟩
def sp_is_integer : Sp := fun vs H Q _ => ∃ (i lo hi : Int), vs = [.int i, .int lo, .int hi] ∧ Q (.bl (decide (lo ≤ i ∧ i ≤ hi))) H
section
variable {P : Program} {w : World} {K : PySem.W.Frag} {mg : Str → Option Value} {base : Heap} {C : Addr} {r : Er}
set_option maxHeartbeats 4000000 in
theorem ok_is_integer {f : Addr} {fd : FuncData} (F : Def K mg "is_integer" s_is_integer f fd) (T : Txt K mg C r) (b : Binds K fd ["thing", "low", "high"] []) : Cal P w K mg base 1 "is_integer" (sp_is_integer) [] := by
  refine cal0 F b .nil sc_is_integer (fun vs H Q E h => ?_) (fun cdv A outer s H vs Q E hr h => ?_)
  · obtain ⟨_, _, _, rfl, _⟩ := h
    rfl
  · obtain ⟨i, lo, hi, rfl, k⟩ := h
    refine ⟨_, (pss_cons (ps_if (PW.pt (pw_or (pt_val (pe_callB (isiK K rfl) (by rfl) T.b_isinstance (by decide +kernel) (pa_cons (pv 0) (pa_cons (pe_bltn (v := .ty "bool") (u := .type "bool") (by rfl) T.b_bool (by decide +kernel) rfl) pa_nil)))) (pw_or1 (pt_not (pt_val (pe_callB (isiK K rfl) (by rfl) T.b_isinstance (by decide +kernel) (pa_cons (pv 0) (pa_cons (pe_bltn (v := .ty "int") (u := .type "int") (by rfl) T.b_int (by decide +kernel) rfl) pa_nil)))))))) (pss_one (ps_ret pe_bl)) pss_nil)
        (pss_one (ps_ret (pe_and (pe_cmpR op_ge (pv 0) (pv 1) (nomark _)) (pe_one (pe_or (pe_cmpR op_isN1 (pv 2) pe_non (nomark _)) (pe_one (pe_cmpR op_le (pv 0) (pv 2) (nomark _))))))))), ?_⟩
    walk_at "go"
    refine i_isi (.base (.int i)) (r := false) (by decide +kernel) ?_
    walk_at "go"
    refine i_isi (.base (.int i)) (r := true) (by decide +kernel) ?_
    walk_at "go"
    refine iteD (fun h1 => ?_) (fun h1 => ?_)
    · walk_at "go"
      have e : decide (i ≤ hi) = decide (lo ≤ i ∧ i ≤ hi) := by simp [h1]
      rw [e]
      exact k
    · have e : false = decide (lo ≤ i ∧ i ≤ hi) := by simp [h1]
      rw [e]
      exact k
end
abbrev s_is_listed : Stmt := top 15
theorem sc_is_listed : FnScope ["thing"] ["thing"] (fnScope s_is_listed) := ⟨rfl, rfl, rfl, by decide +kernel, rfl, by decide +kernel, by decide +kernel⟩
def sp_is_listed : Sp := fun vs H Q _ => ∃ (p : Addr) (t : Bool) (xs : List V), vs = [.ref p] ∧ H p = some (sq t xs) ∧ ∀ H', Same H H' → Q (.bl true) H'
section
variable {P : Program} {w : World} {K : PySem.W.Frag} {mg : Str → Option Value} {base : Heap} {C : Addr} {r : Er}
set_option maxHeartbeats 4000000 in
theorem ok_is_listed {f : Addr} {fd : FuncData} (F : Def K mg "is_listed" s_is_listed f fd) (T : Txt K mg C r) (b : Binds K fd ["thing"] []) : Cal P w K mg base 1 "is_listed" (sp_is_listed) [] := by
  refine cal0 F b .nil sc_is_listed (fun vs H Q E h => ?_) (fun cdv A outer s H vs Q E hr h => ?_)
  · obtain ⟨_, _, _, rfl, _⟩ := h
    rfl
  · obtain ⟨p, t, xs, rfl, hp, k⟩ := h
    refine ⟨_, (pss_one (ps_ret (pe_callB (isiTK K rfl) (by rfl) T.b_isinstance (by decide +kernel) (pa_cons (pv 0) (pa_cons (pe_tup (pa_cons (pe_bltn (v := .ty "tuple") (u := .type "tuple") (by rfl) T.b_tuple (by decide +kernel) rfl) (pa_cons (pe_bltn (v := .ty "list") (u := .type "list") (by rfl) T.b_list (by decide +kernel) rfl) pa_nil))) pa_nil))))), ?_⟩
    walk_at "go"
    refine ⟨by decide, fun tp htp => ?_⟩
    walk_at "go"
    exact i_isiTL (by rw [upd_ne (ne_of_none hp htp)]; exact hp) upd_same (k _ (same_laid htp))
end
abbrev s_is_alphabet : Stmt := top 16
theorem sc_is_alphabet : FnScope ["thing", "letter", "k"] ["thing"] (fnScope s_is_alphabet) := ⟨rfl, rfl, rfl, by decide +kernel, rfl, by decide +kernel, by decide +kernel⟩
def sp_is_alphabet : Sp := fun vs H Q _ => ∃ (al : List Nat), vs = [.str (SX.S al)] ∧ AlOk al ∧ ∀ H', Same H H' → Q (.bl true) H'
section
variable {P : Program} {w : World} {K : PySem.W.Frag} {mg : Str → Option Value} {base : Heap} {C : Addr} {r : Er}
set_option maxHeartbeats 4000000 in
theorem ok_is_alphabet {f : Addr} {fd : FuncData} (F : Def K mg "is_alphabet" s_is_alphabet f fd) (T : Txt K mg C r) (b : Binds K fd ["thing"] []) : Cal P w K mg base 1 "is_alphabet" (sp_is_alphabet) [] := by
  refine cal0 F b .nil sc_is_alphabet (fun vs H Q E h => ?_) (fun cdv A outer s H vs Q E hr h => ?_)
  · obtain ⟨_, rfl, _⟩ := h
    rfl
  · obtain ⟨al, rfl, ha, k⟩ := h
    refine ⟨_, (pss_cons (ps_if (PW.pt (pw_or (pt_not (pt_val (pe_callB (isiK K rfl) (by rfl) T.b_isinstance (by decide +kernel) (pa_cons (pv 0) (pa_cons (pe_bltn (v := .ty "str") (u := .type "str") (by rfl) T.b_str (by decide +kernel) rfl) pa_nil))))) (pw_or1 (pt_not (pt_chain op_le op_le pe_int (pe_callB (lenK K rfl) (by rfl) T.b_len (by decide +kernel) (pa_cons (pv 0) pa_nil)) pe_int))))) (pss_one (ps_ret pe_bl)) pss_nil)
        (pss_cons (ps_if (pt_val (pe_callB (anyK K rfl rfl) (by rfl) T.b_any (by decide +kernel) (pa_cons (pe_lc (own := [("letter", 1)]) rfl sc_is_alphabet.nd (pi_str (pv 0)) (blkOk_by (by kernel_rfl)) (fun _ _ _ _ _ => (pg_name (i := 1) sc_is_alphabet.nd rfl (by first | exact Or.inl rfl | exact Or.inr rfl))) (fun _ _ _ _ _ => pts_nil) (fun _ _ _ _ _ => (pe_cmpR op_notInSg (pv 1) (pe_gc rfl T.c_SMALL) rfl))) pa_nil))) (pss_one (ps_ret pe_bl)) pss_nil)
        (pss_one (ps_ret (pe_callB (allK K rfl rfl) (by rfl) T.b_all (by decide +kernel) (pa_cons (pe_lc (own := [("k", 2)]) rfl sc_is_alphabet.nd (pi_range1 (by rfl) T.b_range (pa_cons (pe_op op_sub (pe_callB (lenK K rfl) (by rfl) T.b_len (by decide +kernel) (pa_cons (pv 0) pa_nil)) pe_int) pa_nil)) (blkOk_by (by kernel_rfl)) (fun _ _ _ _ _ => (pg_name (i := 2) sc_is_alphabet.nd rfl (by first | exact Or.inl rfl | exact Or.inr rfl))) (fun _ _ _ _ _ => pts_nil) (fun _ _ _ _ _ => (pe_cmpR op_lt_str (pe_ix (ixK K rfl) (pv 0) (pv 2) (fun _ _ => rfl)) (pe_ix (ixK K rfl) (pv 0) (pe_op op_add (pv 2) pe_int) (fun _ _ => rfl)) (nomark _)))) pa_nil)))))), ?_⟩
    walk_at "go"
    refine i_isi (.base (.str _)) (r := true) (by decide +kernel) ?_
    walk_at "go"
    have hl : (SX.S al).length = al.length := SX.S_len al
    have h1 := ha.pos
    have h3 := ha.le
    have hcs : (SX.S al).cps.size = al.length := hl
    refine i_lenS (szl (by omega)) ?_
    walk_at "go"
    refine ite_dt (by omega) ?_
    walk_at "go"
    refine ite_ndf (by omega) ?_
    walk_at "go"
    intro D hD
    refine str_lc (fun i H' => i ≤ al.length ∧ H' = upd H D (.lst (List.replicate i (.bl false)))) ⟨Nat.zero_le _, rfl⟩ (fun i c H' hc p => ?_) (fun H' p => ?_)
    · obtain ⟨hi, rfl⟩ := p
      have hm : c ∈ al := by
        have z : al.toArray[i]? = some c := hc
        rw [List.getElem?_toArray] at z
        exact List.mem_of_getElem? z
      have hi' : i < al.length := by
        have z : al.toArray[i]? = some c := hc
        rw [List.getElem?_toArray] at z
        exact (List.getElem?_eq_some_iff.mp z).1
      walk_at "go"
      walk_at "go"
      rw [decide_eq_true (show c ∈ SMALL.cps.toList from small_mem (ha.small c hm))]
      exact ⟨_, upd_same, szlt (by rw [List.length_replicate]; omega), hi', upd_lst (rep_snoc i (V.bl false))⟩
    · obtain ⟨_, rfl⟩ := p
      walk_at "go"
      rw [hcs]
      refine i_any (bs := List.replicate al.length false) (r := false) (by rw [upd_same, map_rep]) (any_rep _) ?_
      walk_at "go"
      refine i_lenS (szl (by omega)) ?_
      walk_at "go"
      refine ⟨by omega, by omega, fun D2 hD2 => ?_⟩
      refine rng0_lc (fun i H' => i ≤ al.length ∧ H' = upd (upd H D (.lst (List.replicate al.length (.bl false)))) D2 (.lst (List.replicate i (.bl true)))) ⟨Nat.zero_le _, rfl⟩ (fun i H' hi p => ?_) (fun H' p => ?_)
      · obtain ⟨_, rfl⟩ := p
        have hi2 : i + 1 < al.length := by omega
        walk_at "go"
        have e1 : atI (SX.S al).cps.toList (i : Int) = some (al[i]'(by omega)) := S_at (List.getElem?_eq_getElem _)
        have e2 : atI (SX.S al).cps.toList ((i : Int) + 1) = some (al[i + 1]'hi2) := S_at (i := i + 1) (List.getElem?_eq_getElem _)
        refine i_ixS (szl (by omega)) e1 ?_
        walk_at "go"
        refine i_ixS (szl (by omega)) e2 ?_
        have e3 : al[i]'(by omega) < al[i + 1]'hi2 := List.pairwise_iff_getElem.mp ha.inc i (i + 1) _ _ (by omega)
        refine ⟨_, _, rfl, rfl, ?_⟩
        refine ⟨_, upd_same, szlt (by rw [List.length_replicate]; omega), Nat.le_of_lt hi2, upd_lst ?_⟩
        rw [decide_eq_true (show _ < _ from List.Lex.rel e3)]
        exact rep_snoc i (V.bl true)
      · obtain ⟨_, rfl⟩ := p
        walk_at "go"
        exact i_all (bs := List.replicate _ true) (by rw [upd_same, map_rep]) (all_rep _) (k _ ((same_laid hD).trans (same_laid hD2)))
end
abbrev s_check_alphabet : Stmt := top 17
theorem sc_check_alphabet : FnScope ["thing"] ["thing"] (fnScope s_check_alphabet) := ⟨rfl, rfl, rfl, by decide +kernel, rfl, by decide +kernel, by decide +kernel⟩
def sp_check_alphabet : Sp := fun vs H Q _ => ∃ (al : List Nat), vs = [.str (SX.S al)] ∧ AlOk al ∧ ∀ H', Same H H' → Q .non H'
section
variable {P : Program} {w : World} {K : PySem.W.Frag} {mg : Str → Option Value} {base : Heap} {C : Addr} {r : Er}
set_option maxHeartbeats 4000000 in
theorem ok_check_alphabet {f : Addr} {fd : FuncData} (F : Def K mg "check_alphabet" s_check_alphabet f fd) (T : Txt K mg C r) (b : Binds K fd ["thing"] []) (c_is_alphabet : Cal P w K mg base 1 "is_alphabet" sp_is_alphabet []) : Cal P w K mg base 2 "check_alphabet" (sp_check_alphabet) [] := by
  refine cal0 F b .nil sc_check_alphabet (fun vs H Q E h => ?_) (fun cdv A outer s H vs Q E hr h => ?_)
  · obtain ⟨_, rfl, _⟩ := h
    rfl
  · obtain ⟨al, rfl, ha, k⟩ := h
    refine ⟨_, (pss_one (ps_if (pt_not (pt_val (pe_c c_is_alphabet hr (by decide) rfl (pa_cons (pv 0) pa_nil)))) (pss_one ps_never) pss_nil)), ?_⟩
    walk_at "go"
    refine ⟨al, rfl, ha, fun H' s => ?_⟩
    walk_at "go"
    exact k H' s
end
abbrev s_text_fault : Stmt := top 18
theorem sc_text_fault : FnScope ["alphabet", "thing", "most", "at", "letter"] ["alphabet", "thing", "most"] (fnScope s_text_fault) := ⟨rfl, rfl, rfl, by decide +kernel, rfl, by decide +kernel, by decide +kernel⟩
def sp_text_fault : Sp := fun vs H Q _ => ∃ (al z : List Nat) (most : Int), vs = [.str (SX.S al), .str (SX.S z), .int most] ∧ (z.length : Int) ≤ most ∧ most ≤ 1000000 ∧ (∀ c ∈ z, c ∈ al) ∧ ∀ H', Same H H' → Q .non H'
section
variable {P : Program} {w : World} {K : PySem.W.Frag} {mg : Str → Option Value} {base : Heap} {C : Addr} {r : Er}
set_option maxHeartbeats 4000000 in
theorem ok_text_fault {f : Addr} {fd : FuncData} (F : Def K mg "text_fault" s_text_fault f fd) (T : Txt K mg C r) (b : Binds K fd ["alphabet", "thing", "most"] []) : Cal P w K mg base 1 "text_fault" (sp_text_fault) [] := by
  refine cal0 F b .nil sc_text_fault (fun vs H Q E h => ?_) (fun cdv A outer s H vs Q E hr h => ?_)
  · obtain ⟨_, _, _, rfl, _⟩ := h
    rfl
  · obtain ⟨al, z, most, rfl, h1, h2, hz, k⟩ := h
    refine ⟨_, (pss_cons (ps_if (PW.pt (pw_or (pt_not (pt_val (pe_callB (isiK K rfl) (by rfl) T.b_isinstance (by decide +kernel) (pa_cons (pv 1) (pa_cons (pe_bltn (v := .ty "str") (u := .type "str") (by rfl) T.b_str (by decide +kernel) rfl) pa_nil))))) (pw_or1 (pt_cmpR op_gt (pe_callB (lenK K rfl) (by rfl) T.b_len (by decide +kernel) (pa_cons (pv 1) pa_nil)) (pv 2) (nomark _))))) (pss_one (ps_ret (pe_un un_neg pe_int))) pss_nil)
        (pss_cons (ps_for PassesOwn.never rfl (pi_enumS (by rfl) T.b_enumerate (pa_cons (pv 1) pa_nil)) (pg_tup rfl (pgs_cons (pg_name (i := 3) sc_text_fault.nd rfl (by first | exact Or.inl rfl | exact Or.inr rfl)) (pgs_cons (pg_name (i := 4) sc_text_fault.nd rfl (by first | exact Or.inl rfl | exact Or.inr rfl)) pgs_nil)))
        (pss_one (ps_if (pt_cmpR op_notInSg (pv 4) (pv 0) rfl) (pss_one (ps_ret (pv 3))) pss_nil)))
        (pss_one (ps_ret pe_non)))), ?_⟩
    walk_at "go"
    refine i_isi (.base (.str _)) (r := true) (by decide +kernel) ?_
    walk_at "go"
    have hl : (SX.S z).length = z.length := SX.S_len z
    refine i_lenS (szl (by omega)) ?_
    walk_at "go"
    refine ite_df (by omega) ?_
    walk_at "go"
    refine enumS_for (fun i σ H' => ∃ x y, σ = [some (.str (SX.S al)), some (.str (SX.S z)), some (.int most), x, y] ∧ Same H H') ⟨none, none, rfl, Same.refl H⟩ (fun i c TT σ H' hc hp hT => ?_) (fun σ H' hp => ?_)
    · obtain ⟨x, y, rfl, hs⟩ := hp
      have hm : c ∈ al := hz c (List.mem_of_getElem? (by simpa [SX.S] using hc))
      walk_at "go"
      refine ite_ndf hm ?_
      walk_at "go"
      exact ⟨_, _, rfl, hs.trans (same_laid hT)⟩
    · obtain ⟨x, y, rfl, hs⟩ := hp
      walk_at "go"
      exact k H' hs
end
abbrev s_check_text : Stmt := top 19
theorem sc_check_text : FnScope ["alphabet", "thing", "fault"] ["alphabet", "thing"] (fnScope s_check_text) := ⟨rfl, rfl, rfl, by decide +kernel, rfl, by decide +kernel, by decide +kernel⟩
def sp_check_text : Sp := fun vs H Q _ => ∃ (al z : List Nat), vs = [.str (SX.S al), .str (SX.S z)] ∧ z.length ≤ 40 ∧ (∀ c ∈ z, c ∈ al) ∧ ∀ H', Same H H' → Q .non H'
section
variable {P : Program} {w : World} {K : PySem.W.Frag} {mg : Str → Option Value} {base : Heap} {C : Addr} {r : Er}
set_option maxHeartbeats 4000000 in
theorem ok_check_text {f : Addr} {fd : FuncData} (F : Def K mg "check_text" s_check_text f fd) (T : Txt K mg C r) (b : Binds K fd ["alphabet", "thing"] []) (c_text_fault : Cal P w K mg base 1 "text_fault" sp_text_fault []) : Cal P w K mg base 2 "check_text" (sp_check_text) [] := by
  refine cal0 F b .nil sc_check_text (fun vs H Q E h => ?_) (fun cdv A outer s H vs Q E hr h => ?_)
  · obtain ⟨_, _, rfl, _⟩ := h
    rfl
  · obtain ⟨al, z, rfl, h1, hz, k⟩ := h
    refine ⟨_, (pss_cons (ps_set (i := 2) sc_check_text.nd rfl (by first | exact Or.inl rfl | exact Or.inr rfl) (pe_c c_text_fault hr (by decide) rfl (pa_cons (pv 0) (pa_cons (pv 1) (pa_cons (pe_gc rfl T.c_TEXT_LETTERS) pa_nil)))))
        (pss_one (ps_if (pt_cmpR op_notN1 (pv 2) pe_non (nomark _)) (pss_one ps_never) pss_nil))), ?_⟩
    walk_at "go"
    refine ⟨al, z, 40, rfl, by omega, by omega, hz, fun H' s => ?_⟩
    walk_at "go"
    exact k H' s
end
abbrev s_reached_rooms : Stmt := top 22
theorem sc_reached_rooms : FnScope ["moves", "found", "order", "at", "target"] ["moves"] (fnScope s_reached_rooms) := ⟨rfl, rfl, rfl, by decide +kernel, rfl, by decide +kernel, by decide +kernel⟩
def sp_reached_rooms : Sp := fun vs H Q _ => ∃ (Z : AS) (p : Addr) (rs : Rws) (m : Nat), vs = [.ref p] ∧ Rows Z H p rs ∧ WFB m rs ∧ ∀ k a H', (scanAt rs k).length = k → H a = none → Same H H' → H' a = some (.lst ((scanAt rs k).map vn)) → Q (.ref a) H'
/-- the heap with the two that are filled -/
def hfo (H : Hp) (F O : Addr) (o : List Nat) : Hp := upd (upd H F (.dK (mapK o fun _ => .bl true))) O (.lst (o.map vn))
theorem hfo_F {H : Hp} {F O : Addr} {o : List Nat} (h : F ≠ O) : hfo H F O o F = some (.dK (mapK o fun _ => .bl true)) := by
  unfold hfo
  rw [upd_ne h, upd_same]
theorem hfo_O {H : Hp} {F O : Addr} {o : List Nat} : hfo H F O o O = some (.lst (o.map vn)) := upd_same
theorem hfo_same {H : Hp} {F O : Addr} {o : List Nat} (hF : H F = none) (hO : H O = none) : Same H (hfo H F O o) := fun b u e => by
  unfold hfo
  rw [upd_ne (ne_of_none e hO), upd_ne (ne_of_none e hF)]
  exact e
theorem hfo_put {H : Hp} {F O : Addr} {o : List Nat} {t : Nat} (h : F ≠ O) (ht : t ∉ o) : upd (upd (hfo H F O o) F (.dK (putK (mapK o fun _ => .bl true) (Sum.inl (t : Int)) (.bl true)))) O (.lst (o.map vn ++ [V.int (t : Int)])) = hfo H F O (o ++ [t]) := by
  rw [putK_mapK ht rfl]
  unfold hfo
  rw [upd2 h, List.map_append]
  rfl
section
variable {P : Program} {w : World} {K : PySem.W.Frag} {mg : Str → Option Value} {base : Heap} {C : Addr} {r : Er}
set_option maxHeartbeats 4000000 in
theorem ok_reached_rooms {f : Addr} {fd : FuncData} (F : Def K mg "reached_rooms" s_reached_rooms f fd) (T : Txt K mg C r) (b : Binds K fd ["moves"] []) : Cal P w K mg base 1 "reached_rooms" (sp_reached_rooms) [] := by
  refine cal0 F b .nil sc_reached_rooms (fun vs H Q E h => ?_) (fun cdv A outer s H vs Q E hr h => ?_)
  · obtain ⟨_, _, _, _, rfl, _⟩ := h
    rfl
  · obtain ⟨Z, p, rs, m, rfl, hp, hw, k⟩ := h
    refine ⟨_, (pss_cons (ps_set (i := 1) sc_reached_rooms.nd rfl (by first | exact Or.inl rfl | exact Or.inr rfl) (pe_disp (pps_cons pe_int pe_bl pps_nil) (by rfl) (by rfl) (fun z => by cases z) (by decide)))
        (pss_cons (ps_set (i := 2) sc_reached_rooms.nd rfl (by first | exact Or.inl rfl | exact Or.inr rfl) (pe_lst (pa_cons pe_int pa_nil)))
        (pss_cons (ps_set (i := 3) sc_reached_rooms.nd rfl (by first | exact Or.inl rfl | exact Or.inr rfl) pe_int)
        (pss_cons (ps_while PassesOwn.never (pt_cmpR op_lt (pv 3) (pe_callB (lenK K rfl) (by rfl) T.b_len (by decide +kernel) (pa_cons (pv 2) pa_nil)) (nomark _)) (pss_cons (ps_for PassesOwn.never rfl (seqK K rfl (pe_ix (ixK K rfl) (pv 0) (pe_ix (ixK K rfl) (pv 2) (pv 3) (fun _ _ => rfl)) (fun _ _ => rfl))) (pg_name (i := 4) sc_reached_rooms.nd rfl (by first | exact Or.inl rfl | exact Or.inr rfl))
        (pss_one (ps_if (pt_cmp (pc_dnotin (hu_of hr) (pv 4) (pv 1))) (pss_cons (ps_dput (hu_of hr) (pv 1) (pv 4) pe_bl rfl)
        (pss_one (ps_expr (bmK K rfl (pe_bm PySem.F.plainAttrs_list PySem.F.slot_list_append PySem.F.type_list_append mt_append (pv 2) (pa_cons (pv 4) pa_nil)))))) pss_nil)))
        (pss_one (ps_set (i := 3) sc_reached_rooms.nd rfl (by first | exact Or.inl rfl | exact Or.inr rfl) (pe_op op_add (pv 3) pe_int)))))
        (pss_one (ps_ret (pv 2))))))), ?_⟩
    walk_at "go"
    intro F hF
    walk_at "go"
    refine ⟨by decide, fun O hO => ?_⟩
    have hFO : F ≠ O := ne_of_none upd_same hO
    have hO' : H O = none := by
      rw [upd_ne hFO.symm] at hO
      exact hO
    walk_at "go"
    have e0 : upd (upd H F (.dK [(Sum.inl 0, .bl true)])) O (.lst [.int 0]) = hfo H F O (scanAt rs 0) := rfl
    rw [e0]
    have hn : rs.length ≤ 4000 := hw.le
    refine i_while 4001 (fun k σ H' => ∃ x, σ = [some (.ref p), some (.ref F), some (.ref O), some (vn k), x] ∧ k ≤ (scanAt rs k).length ∧ H' = hfo H F O (scanAt rs k)) ⟨none, rfl, Nat.zero_le _, rfl⟩ (fun i σ H' hp' => ?_)
    obtain ⟨x, rfl, hi, rfl⟩ := hp'
    have hl := hw.scan_len i
    walk_at "go"
    rw [List.length_map]
    refine iteD (fun hx => ?_) (fun hx => ?_)
    · have hx' : i < (scanAt rs i).length := by
        have : (i : Int) < ((scanAt rs i).length : Int) := hx
        omega
      refine whT (by omega) ?_
      obtain ⟨r, hr1⟩ : ∃ r, (scanAt rs i)[i]? = some r := ⟨_, List.getElem?_eq_getElem hx'⟩
      have hr2 : r < rs.length := hw.scan_lt i r (List.mem_of_getElem? hr1)
      have hrow : (scanAt rs (i + 1)) = addsN (scanAt rs i) (row rs r) := by
        show addsN (scanAt rs i) (row rs ((scanAt rs i).getD i 0)) = _
        rw [List.getD_eq_getElem?_getD, hr1]
        rfl
      obtain ⟨t, vs, a, ha, hvl, hva, hia, ti, hi2⟩ := hp.at hr2
      have hs : ∀ o, Same H (hfo H F O o) := fun o => hfo_same hF hO'
      walk_at "go"
      refine i_ixL hfo_O (vn_at hr1) ?_
      walk_at "go"
      refine i_ixQ (hs _ _ _ ha) hva ?_
      refine seq_for (hs _ _ _ hi2) (fun j σ H' => ∃ x, σ = [some (.ref p), some (.ref F), some (.ref O), some (vn i), x] ∧ H' = hfo H F O (addsN (scanAt rs i) ((row rs r).take j))) ⟨x, rfl, by simp [addsN_nil]⟩ (fun j σ H' _ ⟨_, _, e⟩ => by rw [e]; exact hs _ _ _ hi2) (fun j v σ H' hv hp' => ?_) (fun σ H' hp' => ?_)
      · obtain ⟨y, rfl, rfl⟩ := hp'
        obtain ⟨u, hu, rfl⟩ := at_map hv
        have htk : (row rs r).take (j + 1) = (row rs r).take j ++ [u] := take_at hu
        have hlen : (addsN (scanAt rs i) ((row rs r).take j)).length ≤ 4000 := by
          refine Nat.le_trans (nodup_le (nd_addsN (scan_nd rs i)) fun z hz => ?_) hn
          rcases mem_addsN.mp hz with hz | hz
          · exact hw.scan_lt i z hz
          · exact hw.row_lt hr2 (List.mem_of_mem_take hz)
        walk_at "go"
        refine r_dnotin (hfo_F hFO) ?_
        walk_at "go"
        by_cases hin : u ∈ addsN (scanAt rs i) ((row rs r).take j)
        · rw [valV_mapK_in hin]
          refine iteNT ?_
          walk_at "go"
          exact ⟨_, rfl, by rw [htk, addsN_snoc, addN, if_pos hin]⟩
        · rw [valV_mapK_no hin]
          refine iteNF ?_
          walk_at "go"
          refine r_dput (hfo_F hFO) (by rw [mapK_len]; omega) ?_
          walk_at "go"
          refine i_append (xs := (addsN (scanAt rs i) ((row rs r).take j)).map vn) (by rw [upd_ne hFO.symm]; exact hfo_O) (by rw [List.length_map]; omega) ?_
          rw [hfo_put hFO hin]
          walk_at "go"
          exact ⟨_, rfl, by rw [htk, addsN_snoc, addN, if_neg hin]⟩
      · obtain ⟨y, rfl, rfl⟩ := hp'
        walk_at "go"
        refine ⟨_, rfl, ?_, ?_⟩
        · obtain ⟨q, e⟩ := addsN_pre (scanAt rs i) (row rs r)
          rw [hrow, e, List.length_append]
          omega
        · rw [hrow, List.length_map, List.take_length]
    · walk_at "go"
      have hx' : i = (scanAt rs i).length := by
        have : ¬ (i : Int) < ((scanAt rs i).length : Int) := hx
        omega
      exact k i O _ hx'.symm hO' (hfo_same hF hO') hfo_O
end
abbrev s_joint_table : Stmt := top 25
theorem sc_joint_table : FnScope ["one", "other", "numbers", "order", "moves", "at", "first", "second", "row", "k", "target", "pair"] ["one", "other"] (fnScope s_joint_table) := ⟨rfl, rfl, rfl, by decide +kernel, rfl, by decide +kernel, by decide +kernel⟩
def sp_joint_table : Sp := fun vs H Q _ => ∃ (Z : AS) (p q : Addr) (A B : Rws) (m : Nat), vs = [.ref p, .ref q] ∧ Rows Z H p A ∧ Rows Z H q B ∧ WF m A ∧ WF m B ∧
  ∀ k a O M bs H', Done (jn m A B) (0, 0) k → Same H H' → H a = none → H' a = some (.tup [.ref O, .ref M]) → H' O = some (.lst (bs.map V.ref)) → Prs H' bs (jAt m A B k) → Rows (Old H) H' M (gRows (jn m A B) (jAt m A B k)) → Q (.ref a) H'
section
variable {P : Program} {w : World} {K : PySem.W.Frag} {mg : Str → Option Value} {base : Heap} {C : Addr} {r : Er}
set_option maxHeartbeats 4000000 in
theorem ok_joint_table {f : Addr} {fd : FuncData} (F : Def K mg "joint_table" s_joint_table f fd) (T : Txt K mg C r) (b : Binds K fd ["one", "other"] []) : Cal P w K mg base 1 "joint_table" (sp_joint_table) [] := by
  refine cal0 F b .nil sc_joint_table (fun vs H Q E h => ?_) (fun cdv A outer s H vs Q E hr h => ?_)
  · obtain ⟨_, _, _, _, _, _, rfl, _⟩ := h
    rfl
  · obtain ⟨Z, p, q, A, B, m, rfl, hp, hq, hwA, hwB, k⟩ := h
    refine ⟨_, (pss_cons (ps_set (i := 2) sc_joint_table.nd rfl (by first | exact Or.inl rfl | exact Or.inr rfl) (pe_disp1N hr.units (pe_tup (pa_cons pe_int (pa_cons pe_int pa_nil))) pe_int))
        (pss_cons (ps_set (i := 3) sc_joint_table.nd rfl (by first | exact Or.inl rfl | exact Or.inr rfl) (pe_lst (pa_cons (pe_tup (pa_cons pe_int (pa_cons pe_int pa_nil))) pa_nil)))
        (pss_cons (ps_set (i := 4) sc_joint_table.nd rfl (by first | exact Or.inl rfl | exact Or.inr rfl) (pe_lst pa_nil))
        (pss_cons (ps_set (i := 5) sc_joint_table.nd rfl (by first | exact Or.inl rfl | exact Or.inr rfl) pe_int)
        (pss_cons (ps_while PassesOwn.never (pt_cmpR op_lt (pv 5) (pe_callB (lenK K rfl) (by rfl) T.b_len (by decide +kernel) (pa_cons (pv 3) pa_nil)) (nomark _)) (pss_cons (ps_asg (pe_ix (ixK K rfl) (pv 3) (pv 5) (fun _ _ => rfl)) (pg_tup rfl (pgs_cons (pg_name (i := 6) sc_joint_table.nd rfl (by first | exact Or.inl rfl | exact Or.inr rfl)) (pgs_cons (pg_name (i := 7) sc_joint_table.nd rfl (by first | exact Or.inl rfl | exact Or.inr rfl)) pgs_nil))))
        (pss_cons (ps_set (i := 8) sc_joint_table.nd rfl (by first | exact Or.inl rfl | exact Or.inr rfl) (pe_lst pa_nil))
        (pss_cons (ps_for PassesOwn.never rfl (enumRK K rfl (by rfl) T.b_enumerate (pa_cons (pe_ix (ixK K rfl) (pv 0) (pv 6) (fun _ _ => rfl)) pa_nil)) (pg_tup rfl (pgs_cons (pg_name (i := 9) sc_joint_table.nd rfl (by first | exact Or.inl rfl | exact Or.inr rfl)) (pgs_cons (pg_name (i := 10) sc_joint_table.nd rfl (by first | exact Or.inl rfl | exact Or.inr rfl)) pgs_nil)))
        (pss_cons (ps_set (i := 11) sc_joint_table.nd rfl (by first | exact Or.inl rfl | exact Or.inr rfl) (pe_tup (pa_cons (pv 10) (pa_cons (pe_ix (ixK K rfl) (pe_ix (ixK K rfl) (pv 1) (pv 7) (fun _ _ => rfl)) (pv 9) (fun _ _ => rfl)) pa_nil))))
        (C8.pss_cut (ps_if (pt_cmp (pc_nnotin hr.units (pv 11) (pv 2))) (pss_cons (ps_nput hr.units (pv 2) (pv 11) (pe_callB (lenK K rfl) (by rfl) T.b_len (by decide +kernel) (pa_cons (pv 3) pa_nil)) rfl)
        (pss_one (ps_expr (bmK K rfl (pe_bm PySem.F.plainAttrs_list PySem.F.slot_list_append PySem.F.type_list_append mt_append (pv 3) (pa_cons (pv 11) pa_nil)))))) pss_nil)
        (pss_one (ps_expr (bmK K rfl (pe_bm PySem.F.plainAttrs_list PySem.F.slot_list_append PySem.F.type_list_append mt_append (pv 8) (pa_cons (pe_nget hr.units (pv 2) (pv 11) (fun _ _ => rfl)) pa_nil))))))))
        (pss_cons (ps_expr (bmK K rfl (pe_bm PySem.F.plainAttrs_list PySem.F.slot_list_append PySem.F.type_list_append mt_append (pv 4) (pa_cons (pe_callTy (tupleK K rfl) (by rfl) T.b_tuple (by decide +kernel) (pa_cons (pv 8) pa_nil)) pa_nil))))
        (pss_one (ps_set (i := 5) sc_joint_table.nd rfl (by first | exact Or.inl rfl | exact Or.inr rfl) (pe_op op_add (pv 5) pe_int))))))))
        (pss_one (ps_ret (pe_tup (pa_cons (pv 3) (pa_cons (pv 4) pa_nil)))))))))), ?_⟩
    walk_at "go"
    have hleA := hwA.le
    have hleB := hwB.le
    have hm3 := hwA.m3
    have hnm : A.length * B.length ≤ 3600 := Nat.mul_le_mul hleA hleB
    refine RDispN fun N oN hN nN => ?_
    walk_at "go"
    refine ⟨sz2, fun T0 hT0 => ?_⟩
    have hTN : T0 ≠ N := nN.old.elim fun o e => (ne_of_none e hT0).symm
    have hT02 : H T0 = none := by
      rw [upd_ne hTN] at hT0
      exact hT0
    walk_at "go"
    have n1 := nN.same (same_laid (o := .tup [.int 0, .int 0]) hT0)
    refine ⟨pk (0, 0), keyP (a := 0) (b := 0) upd_same, n1, fun o' n2 => ?_⟩
    have s3 : Same H (upd (upd (upd H N oN) T0 (.tup [.int 0, .int 0])) N o') := Same.put (Same.put (same_laid hN) hT02) hN
    generalize upd (upd (upd H N oN) T0 (.tup [.int 0, .int 0])) N o' = H3 at *
    walk_at "go"
    refine ⟨sz2, fun T1 hT1 => ?_⟩
    walk_at "go"
    refine ⟨sz1, fun O hO => ?_⟩
    walk_at "go"
    refine ⟨szl (by show 0 ≤ 16777216; decide), fun M hM => ?_⟩
    walk_at "go"
    have hO3 : H3 O = none := same_free (same_laid hT1) hO
    have hOM : O ≠ M := ne_of_none upd_same hM
    have s34 : Same H3 (upd (upd (upd H3 T1 (.tup [.int 0, .int 0])) O (.lst [.ref T1])) M (.lst [])) := ((same_laid hT1).trans (same_laid hO)).trans (same_laid hM)
    have hM3 : H3 M = none := same_free ((same_laid hT1).trans (same_laid hO)) hM
    have hOH : H O = none := same_free s3 hO3
    have hMH : H M = none := same_free s3 hM3
    have n4 := n2.same s34
    have hO4 : (upd (upd (upd H3 T1 (.tup [.int 0, .int 0])) O (.lst [.ref T1])) M (.lst [])) O = some (.lst ([T1].map V.ref)) := by rw [upd_ne hOM, upd_same]; rfl
    have hM4 : (upd (upd (upd H3 T1 (.tup [.int 0, .int 0])) O (.lst [.ref T1])) M (.lst [])) M = some (.lst (([] : List Addr).map V.ref)) := upd_same
    have hPr4 : Prs (upd (upd (upd H3 T1 (.tup [.int 0, .int 0])) O (.lst [.ref T1])) M (.lst [])) [T1] [(0, 0)] := .cons (by rw [upd_ne (ne_of_none (by rw [upd_ne (ne_of_none upd_same hO), upd_same]) hM), upd_ne (ne_of_none upd_same hO), upd_same]; rfl) .nil
    have s04 := s3.trans s34
    generalize upd (upd (upd H3 T1 (.tup [.int 0, .int 0])) O (.lst [.ref T1])) M (.lst []) = H4 at *
    refine i_while 3601 (fun k σ H5 => ∃ (x6 x7 x8 x9 x10 x11 : Option V) (bs ms : List Addr), σ = [some (.ref p), some (.ref q), some (.ref N), some (.ref O), some (.ref M), some (vn k), x6, x7, x8, x9, x10, x11] ∧ Same H H5 ∧ NDict P w H5 N (mapN ((jAt m A B k).map pk) (numD ((jAt m A B k).map pk))) ∧ H5 O = some (.lst (bs.map V.ref)) ∧ Prs H5 bs (jAt m A B k) ∧ H5 M = some (.lst (ms.map V.ref)) ∧
        Paired (fun a r => IntsT (Old H) H5 a r) ms (((jAt m A B k).take k).map fun x => (jn m A B x).map (pl (jAt m A B k))) ∧ ∀ q, q < k → q < (jAt m A B q).length)
      ⟨none, none, none, none, none, none, [T1], [], rfl, s04, n4, hO4, hPr4, hM4, .nil, fun q z => absurd z (Nat.not_lt_zero q)⟩ (fun i σ H5 hz => ?_)
    obtain ⟨x6, x7, x8, x9, x10, x11, bs, ms, rfl, s5, n5, hO5, hPr5, hM5, hms5, hok⟩ := hz
    have hbl := hPr5.length
    have hplen : (jAt m A B i).length ≤ A.length * B.length := pairs_len (g_nd (nx := jn m A B) (s := (0, 0)) i) (j_lt hwA.b hwB.b i)
    have hil : i ≤ (jAt m A B i).length := by
      cases i with
      | zero => exact Nat.zero_le _
      | succ j =>
        have h1 := hok j (Nat.lt_succ_self j)
        obtain ⟨mm, e⟩ := g_pre (nx := jn m A B) (s := (0, 0)) j
        rw [show jAt m A B (j + 1) = _ from e, List.length_append]
        show j + 1 ≤ _
        have h2 : j < (gAt (jn m A B) (0, 0) j).length := h1
        omega
    walk_at "go"
    rw [List.length_map, hbl]
    refine iteD (fun hx => ?_) (fun hx => ?_)
    · have hx' : i < (jAt m A B i).length := by omega
      refine whT (by omega) ?_
      obtain ⟨pr, hpr1⟩ : ∃ pr, (jAt m A B i)[i]? = some pr := ⟨_, List.getElem?_eq_getElem hx'⟩
      obtain ⟨hpa, hpb⟩ := j_lt hwA.b hwB.b i pr (List.mem_of_getElem? hpr1)
      have hnext : jAt m A B (i + 1) = addsN (jAt m A B i) (jn m A B pr) := by
        show addsN (gAt (jn m A B) (0, 0) i) (jn m A B ((gAt (jn m A B) (0, 0) i).getD i (0, 0))) = _
        rw [List.getD_eq_getElem?_getD, show (gAt (jn m A B) (0, 0) i)[i]? = some pr from hpr1]
        rfl
      obtain ⟨b, hb1, hb2⟩ := Paired.at1 hPr5 hpr1
      walk_at "go"
      refine i_ixL hO5 (v := .ref b) (atI_nat (map_at hb1)) ?_
      walk_at "go"
      refine ⟨szl (by show 0 ≤ 16777216; decide), fun R hR => ?_⟩
      have hRH : H R = none := same_free s5 hR
      have sR : Same H5 (upd H5 R (.lst [])) := same_laid hR
      have n6 := n5.same sR
      have hO6 := sR _ _ hO5
      have hM6 := sR _ _ hM5
      have hPr6 := hPr5.same sR
      have hms6 : Paired (fun a r => IntsT (Old H) (upd H5 R (.lst [])) a r) ms (((jAt m A B i).take i).map fun x => (jn m A B x).map (pl (jAt m A B i))) := Paired.mapP hms5 fun _ _ z => z.same sR
      have s6 := s5.trans sR
      have hR6 : (upd H5 R (.lst [])) R = some (.lst (([] : List Nat).map vn)) := upd_same
      have hRO : R ≠ O := (ne_of_none hO5 hR).symm
      have hRM : R ≠ M := (ne_of_none hM5 hR).symm
      have hNR : N ≠ R := n5.old.elim fun o e => ne_of_none e hR
      have hNO : N ≠ O := n5.notlst hO5
      have hNM : N ≠ M := n5.notlst hM5
      generalize upd H5 R (.lst []) = H6 at *
      walk_at "go"
      obtain ⟨tr, vr, ar, hr1, hr2, hr3, hr4, tr5, hr6⟩ := hp.at hpa
      obtain ⟨tr', vr', ar', hr1', hr2', hr3', hr4', tr5', hr6'⟩ := hq.at hpb
      have hwr := hwA.row_len hpa
      refine i_ixQ (s6 _ _ hr1) hr3 ?_
      refine enumR_for (s6 _ _ hr6) (fun j σ H7 => ∃ (x9 x10 x11 : Option V) (bs : List Addr), σ = [some (.ref p), some (.ref q), some (.ref N), some (.ref O), some (.ref M), some (vn i), some (vn pr.1), some (vn pr.2), some (.ref R), x9, x10, x11] ∧ Same H H7 ∧ NDict P w H7 N (mapN ((addsN (jAt m A B i) ((jn m A B pr).take j)).map pk) (numD ((addsN (jAt m A B i) ((jn m A B pr).take j)).map pk))) ∧
          H7 O = some (.lst (bs.map V.ref)) ∧ Prs H7 bs (addsN (jAt m A B i) ((jn m A B pr).take j)) ∧ H7 M = some (.lst (ms.map V.ref)) ∧ Paired (fun a r => IntsT (Old H) H7 a r) ms (((jAt m A B i).take i).map fun x => (jn m A B x).map (pl (jAt m A B i))) ∧
          H7 R = some (.lst ((((jn m A B pr).take j).map (pl (addsN (jAt m A B i) ((jn m A B pr).take j)))).map vn)))
        ⟨x9, x10, x11, bs, rfl, s6, by simpa [addsN_nil] using n6, hO6, by simpa [addsN_nil] using hPr6, hM6, hms6, by simpa using hR6⟩ (fun j σ H7 _ ⟨_, _, _, _, _, s7, _⟩ => s7 _ _ hr6) (fun j v TT σ H7 hv hz hTT => ?_) (fun σ H7 hz => ?_)
      · obtain ⟨y9, y10, y11, bs, rfl, s7, n7, hO7, hPr7, hM7, hms7, hR7⟩ := hz
        obtain ⟨u, hu, rfl⟩ := at_map hv
        have hj : j < m := by
          have := (List.getElem?_eq_some_iff.mp hu).1
          omega
        have hu2 : u = stp A pr.1 j := by
          have := hwA.stp_at hpa hj
          rw [hu] at this
          exact Option.some.inj this
        subst hu2
        have hnj : (jn m A B pr)[j]? = some (stp A pr.1 j, stp B pr.2 j) := jn_at hj
        have htk : (jn m A B pr).take (j + 1) = (jn m A B pr).take j ++ [(stp A pr.1 j, stp B pr.2 j)] := take_at hnj
        have hbl7 := hPr7.length
        have hna := hwA.stp_lt hpa hj
        have hnb := hwB.stp_lt hpb hj
        have hol : ∀ x ∈ addsN (jAt m A B i) ((jn m A B pr).take j), x.1 < A.length ∧ x.2 < B.length := fun x hx => by
          refine j_lt hwA.b hwB.b (i + 1) x ?_
          rw [hnext, mem_addsN]
          exact (mem_addsN.mp hx).imp id fun z => List.mem_of_mem_take z
        have hplen7 := pairs_len (nd_addsN (ts := (jn m A B pr).take j) (g_nd (nx := jn m A B) (s := (0, 0)) i)) hol
        have sT : Same H7 (upd H7 TT (.tup [.int (j : Nat), vn (stp A pr.1 j)])) := same_laid hTT
        have n8 := n7.same sT
        have hO8 := sT _ _ hO7
        have hM8 := sT _ _ hM7
        have hR8 := sT _ _ hR7
        have hPr8 := hPr7.same sT
        have hms8 : Paired (fun a r => IntsT (Old H) (upd H7 TT (.tup [.int (j : Nat), vn (stp A pr.1 j)])) a r) ms (((jAt m A B i).take i).map fun x => (jn m A B x).map (pl (jAt m A B i))) := Paired.mapP hms7 fun _ _ z => z.same sT
        have s8 := s7.trans sT
        have hTT8 : (upd H7 TT (.tup [.int (j : Nat), vn (stp A pr.1 j)])) TT = some (.tup [.int (j : Nat), vn (stp A pr.1 j)]) := upd_same
        generalize upd H7 TT (.tup [.int (j : Nat), vn (stp A pr.1 j)]) = H8 at *
        walk_at "go"
        refine i_ixQ (s8 _ _ hr1') hr3' ?_
        walk_at "go"
        refine i_ixQ (s8 _ _ hr6') (vn_at (hwB.stp_at hpb hj)) ?_
        walk_at "go"
        refine ⟨sz2, fun PT hPT => ?_⟩
        walk_at "go"
        generalize hsa : stp A pr.1 j = na at *
        generalize hsb : stp B pr.2 j = nb at *
        have sP : Same H8 (upd H8 PT (.tup [.int (na : Int), .int (nb : Int)])) := same_laid hPT
        have n9 := n8.same sP
        have hO9 := sP _ _ hO8
        have hM9 := sP _ _ hM8
        have hR9 := sP _ _ hR8
        have hPr9 := hPr8.same sP
        have hms9 : Paired (fun a r => IntsT (Old H) (upd H8 PT (.tup [.int (na : Int), .int (nb : Int)])) a r) ms (((jAt m A B i).take i).map fun x => (jn m A B x).map (pl (jAt m A B i))) := Paired.mapP hms8 fun _ _ z => z.same sP
        have s9 := s8.trans sP
        have hT9 : (upd H8 PT (.tup [.int (na : Int), .int (nb : Int)])) PT = some (.tup [.int (na : Int), .int (nb : Int)]) := upd_same
        generalize upd H8 PT (.tup [.int (na : Int), .int (nb : Int)]) = H9 at *
        have ky : KeyAt H9 (pk (na, nb)) (.ref PT) := keyP hT9
        generalize hcur : addsN (jAt m A B i) ((jn m A B pr).take j) = cur at *
        have hcur2 : addsN (jAt m A B i) ((jn m A B pr).take (j + 1)) = addN cur (na, nb) := by rw [htk, addsN_snoc, hcur]
        have htm : ∀ x ∈ (jn m A B pr).take j, x ∈ cur := fun x hx => by rw [← hcur]; exact mem_addsN.mpr (.inr hx)
        refine i_cut (fun σ H10 => ∃ bs, σ = [some (.ref p), some (.ref q), some (.ref N), some (.ref O), some (.ref M), some (vn i), some (vn pr.1), some (vn pr.2), some (.ref R), some (vn j), some (vn na), some (.ref PT)] ∧ Same H H10 ∧ NDict P w H10 N (mapN ((addN cur (na, nb)).map pk) (numD ((addN cur (na, nb)).map pk))) ∧
          H10 O = some (.lst (bs.map V.ref)) ∧ Prs H10 bs (addN cur (na, nb)) ∧ H10 M = some (.lst (ms.map V.ref)) ∧ Paired (fun a r => IntsT (Old H) H10 a r) ms (((jAt m A B i).take i).map fun x => (jn m A B x).map (pl (jAt m A B i))) ∧
          H10 R = some (.lst ((((jn m A B pr).take j).map (pl cur)).map vn)) ∧ KeyAt H10 (pk (na, nb)) (.ref PT)) ?_ (fun σ H10 hz => ?_)
        · walk_at "go"
          refine r_nnotin n9 ky ?_
          walk_at "go"
          by_cases hin : (na, nb) ∈ cur
          · rw [lookN_in (pk_mem.mpr hin)]
            refine iteNT ?_
            walk_at "go"
            have e : addN cur (na, nb) = cur := if_pos hin
            exact ⟨bs, rfl, s9, by rw [e]; exact n9, hO9, by rw [e]; exact hPr9, hM9, hms9, hR9, ky⟩
          · have hnk : pk (na, nb) ∉ cur.map pk := fun z => hin (pk_mem.mp z)
            rw [lookN_no hnk]
            refine iteNF ?_
            walk_at "go"
            rw [List.length_map, hbl7]
            refine r_nput n9 ky (by rw [mapN_len, List.length_map]; omega) (fun o n10 => ?_)
            have e : addN cur (na, nb) = cur ++ [(na, nb)] := if_neg hin
            have n10 : NDict P w (upd H9 N o) N (putN (mapN (cur.map pk) (numD (cur.map pk))) (pk (na, nb)) (vn (cur.map pk).length)) := by
              rw [List.length_map]
              exact n10
            rw [numN_put hnk] at n10
            have hPTN : PT ≠ N := fun e => n9.nottup _ (by rw [← e]; exact hT9)
            have hPTO : PT ≠ O := fun e => by rw [e, hO9] at hT9; cases hT9
            walk_at "go"
            refine i_append (xs := bs.map V.ref) (by rw [upd_ne hNO.symm]; exact hO9) (by rw [List.length_map, hbl7]; omega) ?_
            walk_at "go"
            have hOt : ∀ vs, (upd H9 N o) O ≠ some (.tup vs) := fun vs => by
              rw [upd_ne hNO.symm, hO9]
              intro z
              cases z
            refine ⟨bs ++ [PT], rfl, Same.put (Same.put s9 hN) hOH, ?_, by rw [upd_same, List.map_append]; rfl, ?_, ?_, ?_, ?_, ?_⟩
            · rw [e, List.map_append]
              exact n10.upd hNO hOt
            · rw [e]
              refine U.Paired.snoc ((hPr9.upd n9.nottup).upd hOt) ?_
              rw [upd_ne hPTO, upd_ne hPTN]
              exact hT9
            · rw [upd_ne hOM.symm, upd_ne hNM.symm]
              exact hM9
            · refine Paired.mapP hms9 fun a r z => ⟨z.1, ?_⟩
              have h1 : a ≠ O := fun e => by
                have z2 := z.2
                rw [e, hO9] at z2
                cases z2
              have h2 : a ≠ N := fun e => n9.nottup _ (by rw [← e]; exact z.2)
              rw [upd_ne h1, upd_ne h2]
              exact z.2
            · rw [upd_ne hRO, upd_ne hNR.symm]
              exact hR9
            · exact keyP (by rw [upd_ne hPTO, upd_ne hPTN]; exact hT9)
        · obtain ⟨bs, rfl, s10, n10, hO10, hPr10, hM10, hms10, hR10, ky10⟩ := hz
          walk_at "go"
          have hmem : (na, nb) ∈ addN cur (na, nb) := mem_addN.mpr (.inr rfl)
          refine r_nget n10 ky10 (lookN_in (pk_mem.mpr hmem)) ?_
          walk_at "go"
          have hvv : numD ((addN cur (na, nb)).map pk) (pk (na, nb)) = vn (pl (addN cur (na, nb)) (na, nb)) := by
            unfold numD
            rw [pl_map (fun _ _ z => pk_inj z)]
          rw [hvv]
          refine i_append hR10 (by rw [List.length_map, List.length_map, List.length_take]; omega) ?_
          walk_at "go"
          have hNR10 : N ≠ R := hNR
          have hRt : ∀ vs, H10 R ≠ some (.tup vs) := fun vs => by
            rw [hR10]
            intro z
            cases z
          refine ⟨_, _, _, bs, rfl, Same.put s10 hRH, ?_, by rw [upd_ne hRO.symm]; exact hO10, ?_, by rw [upd_ne hRM.symm]; exact hM10, ?_, ?_⟩
          · rw [hcur2]
            exact n10.upd hNR10 hRt
          · rw [hcur2]
            exact hPr10.upd hRt
          · refine Paired.mapP hms10 fun a r z => ⟨z.1, ?_⟩
            rw [upd_ne (fun e => hRt _ (by rw [← e]; exact z.2))]
            exact z.2
          · rw [upd_same, hcur2, htk, List.map_append, List.map_append]
            have e : ((jn m A B pr).take j).map (pl (addN cur (na, nb))) = ((jn m A B pr).take j).map (pl cur) := List.map_congr_left fun x hx => pl_addN (htm x hx)
            rw [e]
            rfl
      · obtain ⟨y9, y10, y11, bs, rfl, s7, n7, hO7, hPr7, hM7, hms7, hR7⟩ := hz
        have el : (List.map vn (row A pr.1)).length = (jn m A B pr).length := by rw [List.length_map, hwr, jn_len]
        rw [el, List.take_length, ← hnext] at n7 hPr7 hR7
        walk_at "go"
        refine i_tupleOfL hR7 (fun TT hTT => ?_)
        walk_at "go"
        have sT : Same H7 (upd H7 TT (.tup (((jn m A B pr).map (pl (jAt m A B (i + 1)))).map vn))) := same_laid hTT
        have hTH : H TT = none := same_free s7 hTT
        have hTM : TT ≠ M := (ne_of_none hM7 hTT).symm
        refine i_append (sT _ _ hM7) (by rw [List.length_map, hms7.length, List.length_map, List.length_take]; omega) ?_
        walk_at "go"
        have hMt : ∀ vs, (upd H7 TT (.tup (((jn m A B pr).map (pl (jAt m A B (i + 1)))).map vn))) M ≠ some (.tup vs) := fun vs => by
          rw [sT _ _ hM7]
          intro z
          cases z
        refine ⟨_, _, _, _, _, _, bs, ms ++ [TT], rfl, Same.put (s7.trans sT) hMH, (n7.same sT).upd hNM hMt, by rw [upd_ne hOM]; exact sT _ _ hO7, (hPr7.same sT).upd hMt, by rw [upd_same, List.map_append]; rfl, ?_, fun q hq => ?_⟩
        · have hsub : (jAt m A B (i + 1)).take (i + 1) = (jAt m A B i).take i ++ [pr] := by
            obtain ⟨mm, e⟩ := g_pre (nx := jn m A B) (s := (0, 0)) i
            rw [show jAt m A B (i + 1) = jAt m A B i ++ mm from e, List.take_append_of_le_length (show i + 1 ≤ (jAt m A B i).length from hx'), take_at hpr1]
          rw [hsub, List.map_append]
          refine U.Paired.snoc ?_ ⟨Old.none hTH, by rw [upd_ne hTM, upd_same]⟩
          have e : ((jAt m A B i).take i).map (fun x => (jn m A B x).map (pl (jAt m A B (i + 1)))) = ((jAt m A B i).take i).map fun x => (jn m A B x).map (pl (jAt m A B i)) := by
            refine List.map_congr_left fun x hx => List.map_congr_left fun y hy => pl_g (Nat.le_succ i) ?_
            obtain ⟨q, hq⟩ := List.mem_iff_getElem?.mp hx
            have hql := (List.getElem?_eq_some_iff.mp hq).1
            rw [List.length_take] at hql
            rw [List.getElem?_take_of_lt (by omega)] at hq
            exact g_row (by omega) hq (hok q (by omega)) hy
          rw [e]
          refine Paired.mapP hms7 fun a r z => ⟨z.1, ?_⟩
          rw [upd_ne (fun e => hMt _ (by rw [← e]; exact sT _ _ z.2))]
          exact sT _ _ z.2
        · by_cases e : q = i
          · rw [e]; exact hx'
          · exact hok q (by omega)
    · walk_at "go"
      have hdone : Done (jn m A B) (0, 0) i := ⟨by show (jAt m A B i).length = i; omega, hok⟩
      refine ⟨sz2, fun a ha => ?_⟩
      have sA : Same H5 (upd H5 a (.tup [.ref O, .ref M])) := same_laid ha
      refine k i a O M bs _ hdone (s5.trans sA) (same_free s5 ha) upd_same (sA _ _ hO5) (hPr5.same sA) ⟨Old.none hMH, false, ms, sA _ _ hM5, ?_⟩
      have e : (jAt m A B i).take i = jAt m A B i := List.take_of_length_le (by omega)
      rw [e] at hms5
      exact Paired.mapP hms5 fun _ _ z => (z.same sA).ints
end
abbrev s_checked_moves : Stmt := top 27
theorem sc_checked_moves : FnScope ["alphabet", "moves", "at", "row", "target"] ["alphabet", "moves"] (fnScope s_checked_moves) := ⟨rfl, rfl, rfl, by decide +kernel, rfl, by decide +kernel, by decide +kernel⟩
def sp_checked_moves : Sp := fun vs H Q _ => ∃ (Z : AS) (al : List Nat) (p : Addr) (rs : Rws), vs = [.str (SX.S al), .ref p] ∧ TO Z H ∧ Rows Z H p rs ∧ AlOk al ∧ WF al.length rs ∧ ∀ pm H', Same H H' → RowsT Z H' pm rs → Q (.ref pm) H'
section
variable {P : Program} {w : World} {K : PySem.W.Frag} {mg : Str → Option Value} {base : Heap} {C : Addr} {r : Er}
set_option maxHeartbeats 4000000 in
theorem ok_checked_moves {f : Addr} {fd : FuncData} (F : Def K mg "checked_moves" s_checked_moves f fd) (T : Txt K mg C r) (b : Binds K fd ["alphabet", "moves"] []) (c_is_listed : Cal P w K mg base 1 "is_listed" sp_is_listed []) (c_is_integer : Cal P w K mg base 1 "is_integer" sp_is_integer []) : Cal P w K mg base 2 "checked_moves" (sp_checked_moves) [] := by
  refine cal0 F b .nil sc_checked_moves (fun vs H Q E h => ?_) (fun cdv A outer s H vs Q E hr h => ?_)
  · obtain ⟨_, _, _, _, rfl, _⟩ := h
    rfl
  · obtain ⟨Z, al, p, rs, rfl, hT, hp, ha, hw, k⟩ := h
    refine ⟨_, (pss_cons (ps_if (PW.pt (pw_or (pt_not (pt_val (pe_c c_is_listed hr (by decide) rfl (pa_cons (pv 1) pa_nil)))) (pw_or1 (pt_not (pt_chain op_le op_le pe_int (pe_callB (lenK K rfl) (by rfl) T.b_len (by decide +kernel) (pa_cons (pv 1) pa_nil)) (pe_gc rfl T.c_MOST_ROOMS)))))) (pss_one ps_never) pss_nil)
        (pss_cons (ps_for PassesOwn.never rfl (enumRK K rfl (by rfl) T.b_enumerate (pa_cons (pv 1) pa_nil)) (pg_tup rfl (pgs_cons (pg_name (i := 2) sc_checked_moves.nd rfl (by first | exact Or.inl rfl | exact Or.inr rfl)) (pgs_cons (pg_name (i := 3) sc_checked_moves.nd rfl (by first | exact Or.inl rfl | exact Or.inr rfl)) pgs_nil)))
        (pss_cons (ps_if (PW.pt (pw_or (pt_not (pt_val (pe_c c_is_listed hr (by decide) rfl (pa_cons (pv 3) pa_nil)))) (pw_or1 (pt_cmpR op_ne (pe_callB (lenK K rfl) (by rfl) T.b_len (by decide +kernel) (pa_cons (pv 3) pa_nil)) (pe_callB (lenK K rfl) (by rfl) T.b_len (by decide +kernel) (pa_cons (pv 0) pa_nil)) (nomark _))))) (pss_one ps_never) pss_nil)
        (pss_one (ps_if (pt_not (pt_val (pe_callB (allK K rfl rfl) (by rfl) T.b_all (by decide +kernel) (pa_cons (pe_lc (own := [("target", 4)]) rfl sc_checked_moves.nd (seqK K rfl (pv 3)) (blkOk_by (by kernel_rfl)) (fun _ _ _ _ _ => (pg_name (i := 4) sc_checked_moves.nd rfl (by first | exact Or.inl rfl | exact Or.inr rfl))) (fun _ _ _ _ _ => pts_nil) (fun _ _ _ _ _ => (pe_c c_is_integer hr (by decide) rfl (pa_cons (pv 4) (pa_cons pe_int (pa_cons (pe_op op_sub (pe_callB (lenK K rfl) (by rfl) T.b_len (by decide +kernel) (pa_cons (pv 1) pa_nil)) pe_int) pa_nil)))))) pa_nil)))) (pss_one ps_never) pss_nil))))
        (pss_one (ps_ret (pe_callTy (tupleK K rfl) (by rfl) T.b_tuple (by decide +kernel) (pa_cons (pe_lc (own := [("row", 3)]) rfl sc_checked_moves.nd (seqK K rfl (pv 1)) (blkOk_by (by kernel_rfl)) (fun _ _ _ _ _ => (pg_name (i := 3) sc_checked_moves.nd rfl (by first | exact Or.inl rfl | exact Or.inr rfl))) (fun _ _ _ _ _ => pts_nil) (fun _ _ _ _ _ => (pe_callTy (tupleK K rfl) (by rfl) T.b_tuple (by decide +kernel) (pa_cons (pv 3) pa_nil)))) pa_nil)))))), ?_⟩
    walk_at "go"
    obtain ⟨hZ, t, as, hv, hpa⟩ := id hp
    have hvl : (as.map V.ref).length = rs.length := by rw [List.length_map, hpa.length]
    have hle := hw.le
    have hpos := hw.pos
    have ha3 := ha.le
    have hl : (SX.S al).length = al.length := SX.S_len al
    refine ⟨p, t, _, rfl, hv, fun H1 s1 => ?_⟩
    walk_at "go"
    refine i_lenQ (s1 _ _ hv) ?_
    walk_at "go"
    rw [hvl]
    refine ite_dt (by show (1 : Int) ≤ _; omega) ?_
    walk_at "go"
    refine ite_ndf (by show _ ≤ (60 : Int); omega) ?_
    walk_at "go"
    refine enumR_for (s1 _ _ hv) (fun i σ H' => ∃ x y, σ = [some (.str (SX.S al)), some (.ref p), x, y, none] ∧ Same H1 H') ⟨none, none, rfl, Same.refl _⟩ (fun i σ H' _ ⟨_, _, _, e⟩ => e _ _ (s1 _ _ hv)) (fun i v TT σ H' hvi hp' hTT => ?_) (fun σ H' hp' => ?_)
    · obtain ⟨x, y, rfl, hs⟩ := hp'
      obtain ⟨a, hva, rfl⟩ := at_map hvi
      obtain ⟨rw', hrw, hia⟩ := Paired.at0 hpa hva
      have hmem : rw' ∈ rs := List.mem_of_getElem? hrw
      have hs' : Same H (upd H' TT (.tup [.int (i : Nat), .ref a])) := (s1.trans hs).trans (same_laid hTT)
      walk_at "go"
      obtain ⟨hia1, ti, hia2⟩ := hia
      have hwid := hw.wid _ hmem
      refine ⟨a, ti, _, rfl, hs' _ _ hia2, fun H2 s2 => ?_⟩
      have s3 := hs'.trans s2
      walk_at "go"
      refine i_lenQ (s3 _ _ hia2) ?_
      walk_at "go"
      refine i_lenS (szl (by omega)) ?_
      walk_at "go"
      refine ite_ndf (by rw [List.length_map]; omega) ?_
      walk_at "go"
      refine seq_lc (s3 _ _ hia2) (fun D hD => ⟨fun j H3 => j ≤ rw'.length ∧ H3 = upd H2 D (.lst (List.replicate j (.bl true))), ⟨Nat.zero_le _, rfl⟩, fun j H3 _ ⟨_, e⟩ => by rw [e, upd_ne (ne_of_none (s3 _ _ hia2) hD)]; exact s3 _ _ hia2, fun j v H3 hvj hp3 => ?_, fun H3 hp3 => ?_⟩)
      · obtain ⟨_, rfl⟩ := hp3
        obtain ⟨u, hu, rfl⟩ := at_map hvj
        have hlt : u < rs.length := hw.lt _ hmem u (List.mem_of_getElem? hu)
        have hj : j < rw'.length := (List.getElem?_eq_some_iff.mp hu).1
        walk_at "go"
        refine i_lenQ (by rw [upd_ne (ne_of_none (s3 _ _ hv) hD)]; exact s3 _ _ hv) ?_
        walk_at "go"
        refine ⟨u, 0, _, rfl, ?_⟩
        rw [decide_eq_true (by rw [hvl]; omega)]
        exact ⟨_, upd_same, szlt (by rw [List.length_replicate]; omega), hj, upd_lst (rep_snoc j (V.bl true))⟩
      · obtain ⟨_, rfl⟩ := hp3
        walk_at "go"
        refine i_all (bs := List.replicate _ true) (by rw [upd_same, map_rep]) (all_rep _) ?_
        walk_at "go"
        exact ⟨_, _, rfl, ((hs.trans (same_laid hTT)).trans s2).trans (same_laid hD)⟩
    · obtain ⟨x, y, rfl, hs⟩ := hp'
      walk_at "go"
      have s2 := s1.trans hs
      refine seq_lc (s2 _ _ hv) (fun D hD => ⟨fun j H3 => Same H' H3 ∧ ∃ bs, H3 D = some (.lst (bs.map V.ref)) ∧ Paired (fun a r => IntsT Z H3 a r) bs (rs.take j), ⟨same_laid hD, [], upd_same, by simp; exact .nil⟩, fun j H3 _ ⟨e, _⟩ => e _ _ (s2 _ _ hv), fun j v H3 hvj hp3 => ?_, fun H3 hp3 => ?_⟩)
      · obtain ⟨s3, bs, hD3, hbs⟩ := hp3
        obtain ⟨a, hva, rfl⟩ := at_map hvj
        obtain ⟨rw', hrw, hia1, ti, hia2⟩ := Paired.at0 hpa hva
        have hj : j < rs.length := (List.getElem?_eq_some_iff.mp hrw).1
        walk_at "go"
        refine i_tupleOf (s3 _ _ (s2 _ _ hia2)) (fun l H4 h1 h2 h3 => ?_)
        have hDl : l ≠ D := fun e => by
          rcases h3 with h3 | ⟨h3, _⟩
          · rw [e, hD3] at h3; cases h3
          · rw [← e, h3, s2 _ _ hia2] at hD; cases hD
        have hlZ : ¬ Z l := by
          rcases h3 with h3 | ⟨h3, _⟩
          · exact fun z => Old.none h3 (hT.same (s2.trans s3) l z)
          · rw [h3]; exact hia1
        have hsm : Same H3 (upd H4 D (.lst (bs.map V.ref ++ [V.ref l]))) → True := fun _ => trivial
        refine ⟨_, h2 _ _ hD3, szlt (by rw [List.length_map, hbs.length, List.length_take]; omega), fun b o e => ?_, bs ++ [l], by rw [upd_same, List.map_append]; rfl, ?_⟩
        · rw [upd_ne (ne_of_none e hD)]
          exact h2 _ _ (s3 _ _ e)
        · rw [take_at hrw]
          have hk : Kp (fun b => b = D) H3 (upd H4 D (.lst (bs.map V.ref ++ [V.ref l]))) := fun b o n e => by
            rw [upd_ne n]
            exact h2 _ _ e
          refine U.Paired.snoc (Paired.mapP hbs fun b r z => ⟨z.1, ?_⟩) ⟨hlZ, by rw [upd_ne hDl]; exact h1⟩
          refine hk _ _ (fun e => ?_) z.2
          have := z.2
          rw [e, hD3] at this
          cases this
      · obtain ⟨s3, bs, hD3, hbs⟩ := hp3
        walk_at "go"
        refine i_tupleOfL hD3 (fun l hl4 => ?_)
        have s4 := (s2.trans s3).trans (same_laid (o := .tup (bs.map V.ref)) hl4)
        refine k l _ s4 ⟨hT.same (s2.trans s3) |>.new hl4, bs, upd_same, ?_⟩
        have e : (rs.take (List.map V.ref as).length) = rs := by rw [hvl, List.take_length]
        rw [e] at hbs
        exact Paired.mapP hbs fun b r z => z.same (same_laid hl4)
end
abbrev s_checked_good : Stmt := top 28
theorem sc_checked_good : FnScope ["moves", "good", "at", "room"] ["moves", "good"] (fnScope s_checked_good) := ⟨rfl, rfl, rfl, by decide +kernel, rfl, by decide +kernel, by decide +kernel⟩
def sp_checked_good : Sp := fun vs H Q _ => ∃ (Z : AS) (pm : Addr) (rs : Rws) (pg : Addr) (gd : List Nat) (m : Nat), vs = [.ref pm, .ref pg] ∧ TO Z H ∧ Rows Z H pm rs ∧ Ints Z H pg gd ∧ WF m rs ∧ GOK rs.length gd ∧ ∀ pg' H', Same H H' → IntsT Z H' pg' gd → Q (.ref pg') H'
section
variable {P : Program} {w : World} {K : PySem.W.Frag} {mg : Str → Option Value} {base : Heap} {C : Addr} {r : Er}
set_option maxHeartbeats 4000000 in
theorem ok_checked_good {f : Addr} {fd : FuncData} (F : Def K mg "checked_good" s_checked_good f fd) (T : Txt K mg C r) (b : Binds K fd ["moves", "good"] []) (c_is_listed : Cal P w K mg base 1 "is_listed" sp_is_listed []) (c_is_integer : Cal P w K mg base 1 "is_integer" sp_is_integer []) : Cal P w K mg base 2 "checked_good" (sp_checked_good) [] := by
  refine cal0 F b .nil sc_checked_good (fun vs H Q E h => ?_) (fun cdv A outer s H vs Q E hr h => ?_)
  · obtain ⟨_, _, _, _, _, _, rfl, _⟩ := h
    rfl
  · obtain ⟨Z, pm, rs, pg, gd, m, rfl, hT, hm, hg, hw, hk, k⟩ := h
    refine ⟨_, (pss_cons (ps_if (pt_not (pt_val (pe_c c_is_listed hr (by decide) rfl (pa_cons (pv 1) pa_nil)))) (pss_one ps_never) pss_nil)
        (pss_cons (ps_for PassesOwn.never rfl (enumRK K rfl (by rfl) T.b_enumerate (pa_cons (pv 1) pa_nil)) (pg_tup rfl (pgs_cons (pg_name (i := 2) sc_checked_good.nd rfl (by first | exact Or.inl rfl | exact Or.inr rfl)) (pgs_cons (pg_name (i := 3) sc_checked_good.nd rfl (by first | exact Or.inl rfl | exact Or.inr rfl)) pgs_nil)))
        (pss_cons (ps_if (pt_not (pt_val (pe_c c_is_integer hr (by decide) rfl (pa_cons (pv 3) (pa_cons pe_int (pa_cons (pe_op op_sub (pe_callB (lenK K rfl) (by rfl) T.b_len (by decide +kernel) (pa_cons (pv 0) pa_nil)) pe_int) pa_nil)))))) (pss_one ps_never) pss_nil)
        (pss_one (ps_if (PW.pt (pw_and (pt_cmpR op_gt (pv 2) pe_int (nomark _)) (pw_and1 (pt_not (pt_cmpR op_lt (pe_ix (ixK K rfl) (pv 1) (pe_op op_sub (pv 2) pe_int) (fun _ _ => rfl)) (pv 3) (nomark _)))))) (pss_one ps_never) pss_nil))))
        (pss_one (ps_ret (pe_callTy (tupleK K rfl) (by rfl) T.b_tuple (by decide +kernel) (pa_cons (pv 1) pa_nil)))))), ?_⟩
    walk_at "go"
    obtain ⟨t, vs, hv, hvl⟩ := hm.len
    obtain ⟨hZ, tg, hgv⟩ := id hg
    have hle := hw.le
    refine ⟨pg, tg, _, rfl, hgv, fun H1 s1 => ?_⟩
    walk_at "go"
    refine enumR_for (s1 _ _ hgv) (fun i σ H' => ∃ x y, σ = [some (.ref pm), some (.ref pg), x, y] ∧ Same H1 H') ⟨none, none, rfl, Same.refl _⟩ (fun i σ H' _ ⟨_, _, _, e⟩ => e _ _ (s1 _ _ hgv)) (fun i v TT σ H' hvi hp' hTT => ?_) (fun σ H' hp' => ?_)
    · obtain ⟨x, y, rfl, hs⟩ := hp'
      obtain ⟨u, hu, rfl⟩ := at_map hvi
      have hs' : Same H (upd H' TT (.tup [.int (i : Nat), vn u])) := (s1.trans hs).trans (same_laid hTT)
      walk_at "go"
      refine i_lenQ (hs' _ _ hv) ?_
      walk_at "go"
      have hlt : u < rs.length := hk.lt u (List.mem_of_getElem? hu)
      refine ⟨u, 0, _, rfl, ?_⟩
      rw [decide_eq_true (by rw [hvl]; omega)]
      walk_at "go"
      refine iteD (fun hi => ?_) (fun hi => ?_)
      · walk_at "go"
        obtain ⟨i', rfl⟩ : ∃ i', i = i' + 1 := ⟨i - 1, by have : (0 : Int) < (i : Int) := hi; omega⟩
        have hu1 := (List.getElem?_eq_some_iff.mp hu).1
        have hlt2 : gd[i']'(by omega) < gd[i' + 1]'hu1 := List.pairwise_iff_getElem.mp hk.inc i' (i' + 1) _ _ (by omega)
        have eu : gd[i' + 1]'hu1 = u := (List.getElem?_eq_some_iff.mp hu).2
        refine i_ixQ (hs' _ _ hgv) (v := vn (gd[i']'(by omega))) (by rw [show (((i' + 1 : Nat) : Int) - 1) = (i' : Int) by omega]; exact vn_at (List.getElem?_eq_getElem _)) ?_
        walk_at "go"
        refine ite_ndf (by omega) ?_
        walk_at "go"
        exact ⟨_, _, rfl, hs.trans (same_laid hTT)⟩
      · walk_at "go"
        exact ⟨_, _, rfl, hs.trans (same_laid hTT)⟩
    · obtain ⟨x, y, rfl, hs⟩ := hp'
      walk_at "go"
      have s2 := s1.trans hs
      refine i_tupleOf (s2 _ _ hgv) (fun l H4 h1 h2 h3 => k l H4 (s2.trans h2) ⟨?_, h1⟩)
      rcases h3 with h3 | ⟨h3, _⟩
      · exact fun z => Old.none h3 (hT.same s2 l z)
      · rw [h3]; exact hZ
end
abbrev s_Readerd_initd : Stmt := inClass (top 29) 0
theorem sc_Readerd_initd : FnScope ["self", "alphabet", "moves", "good"] ["self", "alphabet", "moves", "good"] (fnScope s_Readerd_initd) := ⟨rfl, rfl, rfl, by decide +kernel, rfl, by decide +kernel, by decide +kernel⟩
def sp_Readerd_initd (C : Addr) : Sp := fun vs H Q _ => ∃ (Z : AS) (p dx : Addr) (al : List Nat) (m : Addr) (rs : Rws) (g : Addr) (gd : List Nat), vs = [.ref p, .str (SX.S al), .ref m, .ref g] ∧ TO Z H ∧ H p = some (.ins C dx []) ∧ AlOk al ∧ Rows Z H m rs ∧ Ints Z H g gd ∧ WF al.length rs ∧ GOK rs.length gd ∧
  ∀ H' pm pg, Kp (fun b => b = p) H H' → H' p = some (.ins C dx (flds al pm pg)) → RowsT Z H' pm rs → IntsT Z H' pg gd → Q .non H'
section
variable {P : Program} {w : World} {K : PySem.W.Frag} {mg : Str → Option Value} {base : Heap} {C : Addr} {r : Er}
set_option maxHeartbeats 4000000 in
theorem ok_Readerd_initd {f : Addr} {fd : FuncData} (F : C8.Fun K "__init__" "Reader.__init__" s_Readerd_initd f fd) (T : Txt K mg C r) (c_check_alphabet : Cal P w K mg base 2 "check_alphabet" sp_check_alphabet []) (c_checked_moves : Cal P w K mg base 2 "checked_moves" sp_checked_moves []) (c_checked_good : Cal P w K mg base 2 "checked_good" sp_checked_good []) : FnOk P w K mg base C8.CX0 3 f fd ["self", "alphabet", "moves", "good"] (sp_Readerd_initd C) := by
  refine fn0 F sc_Readerd_initd (fun vs H Q E h => ?_) (fun cdv A outer s H vs Q E hr h => ?_)
  · obtain ⟨_, _, _, _, _, _, _, _, rfl, _⟩ := h
    rfl
  · obtain ⟨Z, p, dx, al, m, rs, g, gd, rfl, hT, hp, ha, hm, hg, hw, hk, k⟩ := h
    refine ⟨_, (pss_cons (ps_expr (pe_c c_check_alphabet hr (by decide) rfl (pa_cons (pv 1) pa_nil)))
        (pss_cons (ps_fld (pv 0) (pv 1) rfl)
        (pss_cons (ps_fld (pv 0) (pe_c c_checked_moves hr (by decide) rfl (pa_cons (pv 1) (pa_cons (pv 2) pa_nil))) rfl)
        (pss_one (ps_fld (pv 0) (pe_c c_checked_good hr (by decide) rfl (pa_cons (fldK K rfl (pv 0) rfl) (pa_cons (pv 3) pa_nil))) rfl))))), ?_⟩
    walk_at "go"
    refine ⟨al, rfl, ha, fun H1 s1 => ?_⟩
    walk_at "go"
    refine r_fld (s1 _ _ hp) T.cl T.nA (by show 0 < 1000; decide) ?_
    have hm1 := (hm.ins hp).same s1
    have hg1 := (hg.ins hp).same s1
    have hT1 : TO (fun b => Z b ∨ b = p) H1 := fun b hb => hb.elim (fun z => hT.same s1 b z) fun z => by rw [z]; exact ⟨_, s1 _ _ hp⟩
    generalize hfa : putF "alphabet" (V.str (SX.S al)) [] = fa
    have hfl : fa.length = 1 := by rw [← hfa]; rfl
    have kp1 : Kp (fun b => b = p) H1 (upd H1 p (.ins C dx fa)) := Kp.at
    have hT2 : TO (fun b => Z b ∨ b = p) (upd H1 p (.ins C dx fa)) := fun b hb => by
      by_cases e : b = p
      · rw [e]; exact ⟨_, upd_same⟩
      · obtain ⟨o, ho⟩ := hT1 b hb
        exact ⟨o, kp1 _ _ e ho⟩
    walk_at "go"
    refine ⟨fun b => Z b ∨ b = p, al, m, rs, rfl, hT2, hm1.kp kp1 (fun b hb => .inr hb), ha, hw, fun pm H2 s2 hpm => ?_⟩
    have hg2 := (hg1.kp kp1 (fun b hb => .inr hb)).same s2
    walk_at "go"
    refine r_fld (s2 _ _ upd_same) T.cl T.nM (by rw [hfl]; decide) ?_
    generalize hfm : putF "moves" (V.ref pm) fa = fm
    have hfl2 : fm.length < 1000 := by
      rw [← hfm, ← hfa]
      show (if ("alphabet" : Str) = "moves" then [(("alphabet" : Str), V.ref pm)] else [(("alphabet" : Str), V.str (SX.S al)), (("moves" : Str), V.ref pm)]).length < 1000
      split
      · show 1 < 1000
        decide
      · show 2 < 1000
        decide
    have lkm : fm.lookup ("moves" : Str) = some (V.ref pm) := by rw [← hfm, lookup_putF, if_pos rfl]
    have kp2 : Kp (fun b => b = p) H2 (upd H2 p (.ins C dx fm)) := Kp.at
    have hT3 : TO (fun b => Z b ∨ b = p) (upd H2 p (.ins C dx fm)) := fun b hb => by
      by_cases e : b = p
      · rw [e]; exact ⟨_, upd_same⟩
      · obtain ⟨o, ho⟩ := (hT2.same s2) b hb
        exact ⟨o, kp2 _ _ e ho⟩
    have hpm2 := hpm.kp kp2 (fun b hb => .inr hb)
    walk_at "go"
    refine i_fldR upd_same T.cl T.nM lkm ?_
    walk_at "go"
    refine ⟨fun b => Z b ∨ b = p, pm, rs, g, gd, al.length, rfl, hT3, hpm2.rows, hg2.kp kp2 (fun b hb => .inr hb), hw, hk, fun pg H3 s3 hpg => ?_⟩
    walk_at "go"
    refine r_fld (s3 _ _ upd_same) T.cl T.nG hfl2 ?_
    have kp3 : Kp (fun b => b = p) H3 (upd H3 p (.ins C dx (putF "good" (.ref pg) fm))) := Kp.at
    refine k _ pm pg ?_ ?_ (((hpm2.same s3).kp kp3 (fun b hb => .inr hb)).weak fun b hb => .inl hb) ((hpg.kp kp3 (fun b hb => .inr hb)).weak fun b hb => .inl hb)
    · exact ((((Kp.of_same s1).trans kp1).trans (.of_same s2)).trans kp2 |>.trans (.of_same s3)).trans kp3
    · rw [upd_same, ← hfm, ← hfa]
      rfl
end
abbrev s_room_of : Stmt := top 30
theorem sc_room_of : FnScope ["reader", "text", "place", "letter"] ["reader", "text"] (fnScope s_room_of) := ⟨rfl, rfl, rfl, by decide +kernel, rfl, by decide +kernel, by decide +kernel⟩
def sp_room_of (C : Addr) : Sp := fun vs H Q _ => ∃ (Z : AS) (p : Addr) (al : List Nat) (rs : Rws) (gd : List Nat) (z w : List Nat), vs = [.ref p, .str (SX.S z)] ∧ Rd C Z H p al rs gd ∧ AlOk al ∧ WF al.length rs ∧ Word al w z ∧ z.length ≤ 100000 ∧ Q (vn (run rs 0 w)) H
section
variable {P : Program} {w : World} {K : PySem.W.Frag} {mg : Str → Option Value} {base : Heap} {C : Addr} {r : Er}
set_option maxHeartbeats 4000000 in
theorem ok_room_of {f : Addr} {fd : FuncData} (F : Def K mg "room_of" s_room_of f fd) (T : Txt K mg C r) (b : Binds K fd ["reader", "text"] []) : Cal P w K mg base 1 "room_of" (sp_room_of C) [] := by
  refine cal0 F b .nil sc_room_of (fun vs H Q E h => ?_) (fun cdv A outer s H vs Q E hr h => ?_)
  · obtain ⟨_, _, _, _, _, _, _, rfl, _⟩ := h
    rfl
  · obtain ⟨Z, p, al, rs, gd, z, w, rfl, hp, ha, hw, hz, hl, k⟩ := h
    refine ⟨_, (pss_cons (ps_set (i := 2) sc_room_of.nd rfl (by first | exact Or.inl rfl | exact Or.inr rfl) pe_int)
        (pss_cons (ps_for PassesOwn.never rfl (pi_str (pv 1)) (pg_name (i := 3) sc_room_of.nd rfl (by first | exact Or.inl rfl | exact Or.inr rfl))
        (pss_one (ps_set (i := 2) sc_room_of.nd rfl (by first | exact Or.inl rfl | exact Or.inr rfl) (pe_ix (ixK K rfl) (pe_ix (ixK K rfl) (fldK K rfl (pv 0) rfl) (pv 2) (fun _ _ => rfl)) (sidxK K rfl (fldK K rfl (pv 0) rfl) (pa_cons (pv 3) pa_nil)) (fun _ _ => rfl)))))
        (pss_one (ps_ret (pv 2))))), ?_⟩
    walk_at "go"
    obtain ⟨hpZ, dx, pm, pg, hp1, hp2, hp3⟩ := hp
    have hlw := hz.len
    refine str_for (fun i σ H' => ∃ x, i ≤ w.length ∧ H' = H ∧ σ = [some (.ref p), some (.str (SX.S z)), some (vn (run rs 0 (w.take i))), x]) ⟨none, Nat.zero_le _, rfl, rfl⟩ (fun i c σ H' hc hq => ?_) (fun σ H' hq => ?_)
    · obtain ⟨x, hi, rfl, rfl⟩ := hq
      have hc' : z[i]? = some c := by simpa [SX.S] using hc
      obtain ⟨a, ha1, ha2, ha3⟩ := hz.at hc'
      have hi' := (List.getElem?_eq_some_iff.mp ha1).1
      have hlt : run rs 0 (w.take i) < rs.length := hw.run_lt hw.pos fun b hb => hz.1 b (List.mem_of_mem_take hb)
      obtain ⟨vs, b, hv1, hv2, hv3, hb1, hb2⟩ := hp2.at hlt
      walk_at "go"
      refine i_fldR hp1 T.cl T.nM (flds_mo al pm pg) ?_
      walk_at "go"
      refine i_ixT hv1 hv3 ?_
      walk_at "go"
      refine i_fldR hp1 T.cl T.nA (flds_al al pm pg) ?_
      walk_at "go"
      refine i_sidx ha.nd ha3 ?_
      walk_at "go"
      refine i_ixT hb2 (vn_at (hw.stp_at hlt ha2)) ?_
      walk_at "go"
      exact ⟨some (.str ⟨#[c]⟩), hi', rfl, by rw [take_at ha1, run_snoc]; rfl⟩
    · obtain ⟨x, hi, rfl, rfl⟩ := hq
      walk_at "go"
      have e : (w.take (SX.S z).cps.size) = w := by
        rw [show (SX.S z).cps.size = w.length from (SX.S_len z).trans hlw, List.take_length]
      rw [e]
      exact k
end
abbrev s_good_marks : Stmt := top 31
theorem sc_good_marks : FnScope ["reader", "room"] ["reader"] (fnScope s_good_marks) := ⟨rfl, rfl, rfl, by decide +kernel, rfl, by decide +kernel, by decide +kernel⟩
def sp_good_marks (C : Addr) : Sp := fun vs H Q _ => ∃ (Z : AS) (p : Addr) (al : List Nat) (rs : Rws) (gd : List Nat), vs = [.ref p] ∧ Rd C Z H p al rs gd ∧ rs.length ≤ 60 ∧ ∀ a H', Same H H' → H a = none → H' a = some (.lst ((List.range rs.length).map fun r => .bl (decide (r ∈ gd)))) → Q (.ref a) H'
section
variable {P : Program} {w : World} {K : PySem.W.Frag} {mg : Str → Option Value} {base : Heap} {C : Addr} {r : Er}
set_option maxHeartbeats 4000000 in
theorem ok_good_marks {f : Addr} {fd : FuncData} (F : Def K mg "good_marks" s_good_marks f fd) (T : Txt K mg C r) (b : Binds K fd ["reader"] []) : Cal P w K mg base 1 "good_marks" (sp_good_marks C) [] := by
  refine cal0 F b .nil sc_good_marks (fun vs H Q E h => ?_) (fun cdv A outer s H vs Q E hr h => ?_)
  · obtain ⟨_, _, _, _, _, rfl, _⟩ := h
    rfl
  · obtain ⟨Z, p, al, rs, gd, rfl, hp, hw, k⟩ := h
    refine ⟨_, (pss_one (ps_ret (pe_lc (own := [("room", 1)]) rfl sc_good_marks.nd (pi_range1 (by rfl) T.b_range (pa_cons (pe_callB (lenK K rfl) (by rfl) T.b_len (by decide +kernel) (pa_cons (fldK K rfl (pv 0) rfl) pa_nil)) pa_nil)) (blkOk_by (by kernel_rfl)) (fun _ _ _ _ _ => (pg_name (i := 1) sc_good_marks.nd rfl (by first | exact Or.inl rfl | exact Or.inr rfl))) (fun _ _ _ _ _ => pts_nil) (fun _ _ _ _ _ => (pe_cmpR (inK K rfl) (pv 1) (fldK K rfl (pv 0) rfl) rfl))))), ?_⟩
    walk_at "go"
    obtain ⟨hpZ, dx, pm, pg, hp1, hp2, hp3⟩ := hp
    obtain ⟨vs, hv, hvl⟩ := hp2.len
    refine i_fldR hp1 T.cl T.nM (flds_mo al pm pg) ?_
    walk_at "go"
    refine ⟨by omega, by omega, fun D hD => ?_⟩
    rw [Int.toNat_natCast, hvl]
    refine rng0_lc (fun i H' => i ≤ rs.length ∧ H' = upd H D (.lst ((List.range i).map fun r => .bl (decide (r ∈ gd))))) ⟨Nat.zero_le _, rfl⟩ (fun i H' hi hq => ?_) (fun H' hq => ?_)
    · obtain ⟨_, rfl⟩ := hq
      have hpD : p ≠ D := ne_of_none hp1 hD
      walk_at "go"
      refine i_fldR (by rw [upd_ne hpD]; exact hp1) T.cl T.nG (flds_go al pm pg) ?_
      refine i_inI (t := true) (by rw [upd_ne (ne_of_none hp3.2 hD)]; exact hp3.2) ?_
      exact ⟨_, upd_same, szlt (by rw [List.length_map, List.length_range]; omega), hi, upd_lst (by rw [List.range_succ, List.map_append]; rfl)⟩
    · obtain ⟨_, rfl⟩ := hq
      exact k D _ (same_laid hD) hD upd_same
end
abbrev s_Readerd_containsd : Stmt := inClass (top 29) 4
theorem sc_Readerd_containsd : FnScope ["self", "text"] ["self", "text"] (fnScope s_Readerd_containsd) := ⟨rfl, rfl, rfl, by decide +kernel, rfl, by decide +kernel, by decide +kernel⟩
def sp_Readerd_containsd (C : Addr) : Sp := fun vs H Q _ => ∃ (Z : AS) (p : Addr) (al : List Nat) (rs : Rws) (gd : List Nat) (z w : List Nat), vs = [.ref p, .str (SX.S z)] ∧ Rd C Z H p al rs gd ∧ AlOk al ∧ WF al.length rs ∧ Word al w z ∧ z.length ≤ 40 ∧ ∀ H', Same H H' → Q (.bl (decide (run rs 0 w ∈ gd))) H'
section
variable {P : Program} {w : World} {K : PySem.W.Frag} {mg : Str → Option Value} {base : Heap} {C : Addr} {r : Er}
set_option maxHeartbeats 4000000 in
theorem ok_Readerd_containsd {f : Addr} {fd : FuncData} (F : C8.Fun K "__contains__" "Reader.__contains__" s_Readerd_containsd f fd) (T : Txt K mg C r) (c_check_text : Cal P w K mg base 2 "check_text" sp_check_text []) (c_room_of : Cal P w K mg base 1 "room_of" (sp_room_of C) []) : FnOk P w K mg base C8.CX0 3 f fd ["self", "text"] (sp_Readerd_containsd C) := by
  refine fn0 F sc_Readerd_containsd (fun vs H Q E h => ?_) (fun cdv A outer s H vs Q E hr h => ?_)
  · obtain ⟨_, _, _, _, _, _, _, rfl, _⟩ := h
    rfl
  · obtain ⟨Z, p, al, rs, gd, z, w, rfl, hp, ha, hw, hz, hl, k⟩ := h
    refine ⟨_, (pss_cons (ps_expr (pe_c c_check_text hr (by decide) rfl (pa_cons (fldK K rfl (pv 0) rfl) (pa_cons (pv 1) pa_nil))))
        (pss_one (ps_ret (pe_cmpR (inK K rfl) (pe_c c_room_of hr (by decide) rfl (pa_cons (pv 0) (pa_cons (pv 1) pa_nil))) (fldK K rfl (pv 0) rfl) rfl)))), ?_⟩
    walk_at "go"
    have hp0 := hp
    obtain ⟨hpZ, dx, pm, pg, hp1, hp2, hp3⟩ := hp
    refine i_fldR hp1 T.cl T.nA (flds_al al pm pg) ?_
    walk_at "go"
    refine ⟨al, z, rfl, hl, fun c hc => ?_, fun H1 s1 => ?_⟩
    · obtain ⟨i, hi⟩ := List.mem_iff_getElem?.mp hc
      obtain ⟨a, _, _, h3⟩ := hz.at hi
      exact List.mem_of_getElem? h3
    walk_at "go"
    refine ⟨Z, p, al, rs, gd, z, w, rfl, hp0.same s1, ha, hw, hz, by omega, ?_⟩
    walk_at "go"
    refine i_fldR (s1 _ _ hp1) T.cl T.nG (flds_go al pm pg) ?_
    exact i_inI (t := true) (s1 _ _ hp3.2) (k H1 s1)
end
abbrev s_Readerd_eqd : Stmt := inClass (top 29) 6
theorem sc_Readerd_eqd : FnScope ["self", "other"] ["self", "other"] (fnScope s_Readerd_eqd) := ⟨rfl, rfl, rfl, by decide +kernel, rfl, by decide +kernel, by decide +kernel⟩
def sp_Readerd_eqd (C : Addr) : Sp := fun vs H Q _ => ∃ (Z : AS) (p q : Addr) (al : List Nat) (rs : Rws) (gd : List Nat) (rs' : Rws) (gd' : List Nat), vs = [.ref p, .ref q] ∧ Rd C Z H p al rs gd ∧ Rd C Z H q al rs' gd' ∧ rs.length ≤ 60 ∧ rs'.length ≤ 60 ∧ Q (.bl (decide (rs = rs' ∧ gd = gd'))) H
section
variable {P : Program} {w : World} {K : PySem.W.Frag} {mg : Str → Option Value} {base : Heap} {C : Addr} {r : Er}
set_option maxHeartbeats 4000000 in
theorem ok_Readerd_eqd {f : Addr} {fd : FuncData} (F : C8.Fun K "__eq__" "Reader.__eq__" s_Readerd_eqd f fd) (T : Txt K mg C r) : FnOk P w K mg base C8.CX0 1 f fd ["self", "other"] (sp_Readerd_eqd C) := by
  refine fn0 F sc_Readerd_eqd (fun vs H Q E h => ?_) (fun cdv A outer s H vs Q E hr h => ?_)
  · obtain ⟨_, _, _, _, _, _, _, _, rfl, _⟩ := h
    rfl
  · obtain ⟨Z, p, q, al, rs, gd, rs', gd', rfl, hp, hq, hw, hw', k⟩ := h
    refine ⟨_, (pss_one (ps_ret (pe_and (pe_callB (call_isC T.ins) (by rfl) T.b_isinstance (by decide +kernel) (pa_cons (pv 1) (pa_cons (pe_gc (v := .ref C) rfl ⟨_, T.mg_Reader, rfl⟩) pa_nil))) (pe_and (pe_cmpR op_eq (fldK K rfl (pv 0) rfl) (fldK K rfl (pv 1) rfl) (nomark _)) (pe_and (pe_cmpR (eqDK K rfl hr.units) (fldK K rfl (pv 0) rfl) (fldK K rfl (pv 1) rfl) (nomark _)) (pe_one (pe_cmpR (eqDK K rfl hr.units) (fldK K rfl (pv 0) rfl) (fldK K rfl (pv 1) rfl) (nomark _)))))))), ?_⟩
    walk_at "go"
    obtain ⟨hpZ, dx, pm, pg, hp1, hp2, hp3⟩ := hp
    obtain ⟨hqZ, dy, qm, qg, hq1, hq2, hq3⟩ := hq
    refine ⟨q, dy, _, rfl, hq1, ?_⟩
    walk_at "go"
    refine i_fldR hp1 T.cl T.nA (flds_al al pm pg) ?_
    walk_at "go"
    refine i_fldR hq1 T.cl T.nA (flds_al al qm qg) ?_
    walk_at "go"
    refine ite_dt rfl ?_
    walk_at "go"
    refine i_fldR hp1 T.cl T.nM (flds_mo al pm pg) ?_
    walk_at "go"
    refine i_fldR hq1 T.cl T.nM (flds_mo al qm qg) ?_
    refine i_eqRows hp2 hq2 ?_
    walk_at "go"
    refine iteD (fun he => ?_) (fun he => ?_)
    · walk_at "go"
      refine i_fldR hp1 T.cl T.nG (flds_go al pm pg) ?_
      walk_at "go"
      refine i_fldR hq1 T.cl T.nG (flds_go al qm qg) ?_
      refine i_eqInts hp3 hq3 ?_
      have e : decide (gd = gd') = decide (rs = rs' ∧ gd = gd') := by simp [he]
      rw [e]
      exact k
    · have e : false = decide (rs = rs' ∧ gd = gd') := by simp [he]
      rw [e]
      exact k
end
abbrev s_room_classes : Stmt := top 23
theorem sc_room_classes : FnScope ["rooms", "moves", "marks", "classes", "many", "grown", "numbers", "renewed", "room", "mark", "target"] ["rooms", "moves", "marks"] (fnScope s_room_classes) := ⟨rfl, rfl, rfl, by decide +kernel, rfl, by decide +kernel, by decide +kernel⟩
def cnA (rs : Rws) (mk : Nat → Bool) (rooms : List Nat) : Nat → Nat
  | 0 => 0
  | k + 1 => cnt rooms (sigA rs mk rooms k)
def grA (rs : Rws) (mk : Nat → Bool) (rooms : List Nat) : Nat → Bool
  | 0 => true
  | k + 1 => decide (cnA rs mk rooms k < cnA rs mk rooms (k + 1))
def clD (rs : Rws) (mk : Nat → Bool) (rooms : List Nat) : Nat → List (Key × V)
  | 0 => []
  | k + 1 => mapK rooms fun r => vn (clsA rs mk rooms k r)
theorem cnA_le (rs : Rws) (mk : Nat → Bool) (rooms : List Nat) : ∀ k, cnA rs mk rooms k ≤ rooms.length
  | 0 => Nat.zero_le _
  | k + 1 => by
    have := len_dd (rooms.map (sigA rs mk rooms k))
    rwa [List.length_map] at this
theorem cnA_pos {rs : Rws} {mk : Nat → Bool} {rooms : List Nat} (h : 0 ∈ rooms) (k : Nat) : 0 < cnA rs mk rooms (k + 1) := List.length_pos_of_mem (mem_dd.mpr (List.mem_map.mpr ⟨0, h, rfl⟩))
def sp_room_classes : Sp := fun vs H Q _ => ∃ (Z : AS) (po pm pk : Addr) (rooms : List Nat) (rs : Rws) (mk : Nat → Bool) (m : Nat), vs = [.ref po, .ref pm, .ref pk] ∧ H po = some (.lst (rooms.map vn)) ∧ Rows Z H pm rs ∧ H pk = some (.lst ((List.range rs.length).map fun r => .bl (mk r))) ∧ WFB m rs ∧ rooms.length ≤ 4000 ∧ 0 ∈ rooms ∧ rooms.Nodup ∧ (∀ r ∈ rooms, r < rs.length ∧ ∀ t ∈ row rs r, t ∈ rooms) ∧
  ∀ j a H', (cnt rooms (sigA rs mk rooms (j + 1)) ≤ cnt rooms (sigA rs mk rooms j)) → Same H H' → H a = none → H' a = some (.dK (mapK rooms fun r => vn (clsA rs mk rooms (j + 1) r))) → Q (.ref a) H'
section
variable {P : Program} {w : World} {K : PySem.W.Frag} {mg : Str → Option Value} {base : Heap} {C : Addr} {r : Er}
set_option maxHeartbeats 4000000 in
theorem ok_room_classes {f : Addr} {fd : FuncData} (F : Def K mg "room_classes" s_room_classes f fd) (T : Txt K mg C r) (b : Binds K fd ["rooms", "moves", "marks"] []) : Cal P w K mg base 1 "room_classes" (sp_room_classes) [] := by
  refine cal0 F b .nil sc_room_classes (fun vs H Q E h => ?_) (fun cdv A outer s H vs Q E hr h => ?_)
  · obtain ⟨_, _, _, _, _, _, _, _, rfl, _⟩ := h
    rfl
  · obtain ⟨Z, po, pm, pk, rooms, rs, mk, m, rfl, ho, hm, hk, hw, hl, h0, hnd, hin, k⟩ := h
    refine ⟨_, (pss_cons (ps_set (i := 3) sc_room_classes.nd rfl (by first | exact Or.inl rfl | exact Or.inr rfl) pe_dnewK)
        (pss_cons (ps_set (i := 4) sc_room_classes.nd rfl (by first | exact Or.inl rfl | exact Or.inr rfl) pe_int)
        (pss_cons (ps_set (i := 5) sc_room_classes.nd rfl (by first | exact Or.inl rfl | exact Or.inr rfl) pe_bl)
        (pss_cons (ps_while PassesOwn.never (pt_val (pv 5)) (pss_cons (ps_set (i := 6) sc_room_classes.nd rfl (by first | exact Or.inl rfl | exact Or.inr rfl) pe_dnewN)
        (pss_cons (ps_set (i := 7) sc_room_classes.nd rfl (by first | exact Or.inl rfl | exact Or.inr rfl) pe_dnewK)
        (pss_cons (ps_for PassesOwn.never rfl (seqK K rfl (pv 0)) (pg_name (i := 8) sc_room_classes.nd rfl (by first | exact Or.inl rfl | exact Or.inr rfl))
        (C8.pss_cut (ps_if (pt_cmpR op_eq (pv 4) pe_int (nomark _)) (pss_one (ps_set (i := 9) sc_room_classes.nd rfl (by first | exact Or.inl rfl | exact Or.inr rfl) (pe_tup (pa_cons (pe_ix (ixK K rfl) (pv 2) (pv 8) (fun _ _ => rfl)) pa_nil)))) (pss_one (ps_set (i := 9) sc_room_classes.nd rfl (by first | exact Or.inl rfl | exact Or.inr rfl) (pe_tup (pa_cons (pe_dget (hu_of hr) (pv 3) (pv 8) (fun _ _ => rfl)) (pa_cons (pe_callTy (tupleK K rfl) (by rfl) T.b_tuple (by decide +kernel) (pa_cons (pe_lc (own := [("target", 10)]) rfl sc_room_classes.nd (seqK K rfl (pe_ix (ixK K rfl) (pv 1) (pv 8) (fun _ _ => rfl))) (blkOk_by (by kernel_rfl)) (fun _ _ _ _ _ => (pg_name (i := 10) sc_room_classes.nd rfl (by first | exact Or.inl rfl | exact Or.inr rfl))) (fun _ _ _ _ _ => pts_nil) (fun _ _ _ _ _ => (pe_dget (hu_of hr) (pv 3) (pv 10) (fun _ _ => rfl)))) pa_nil)) pa_nil))))))
        (C8.pss_cut (ps_if (pt_cmp (pc_nnotin hr.units (pv 9) (pv 6))) (pss_one (ps_nput hr.units (pv 6) (pv 9) (pe_callB (lenNK P w rfl rfl) (by rfl) T.b_len (by decide +kernel) (pa_cons (pv 6) pa_nil)) rfl)) pss_nil)
        (pss_one (ps_dput (hu_of hr) (pv 7) (pv 8) (pe_nget hr.units (pv 6) (pv 9) (fun _ _ => rfl)) rfl)))))
        (pss_cons (ps_set (i := 5) sc_room_classes.nd rfl (by first | exact Or.inl rfl | exact Or.inr rfl) (pe_cmpR op_gt (pe_callB (lenNK P w rfl rfl) (by rfl) T.b_len (by decide +kernel) (pa_cons (pv 6) pa_nil)) (pv 4) (nomark _)))
        (pss_cons (ps_set (i := 4) sc_room_classes.nd rfl (by first | exact Or.inl rfl | exact Or.inr rfl) (pe_callB (lenNK P w rfl rfl) (by rfl) T.b_len (by decide +kernel) (pa_cons (pv 6) pa_nil)))
        (pss_one (ps_set (i := 3) sc_room_classes.nd rfl (by first | exact Or.inl rfl | exact Or.inr rfl) (pv 7)))))))))
        (pss_one (ps_ret (pv 3))))))), ?_⟩
    walk_at "go"
    intro C0 hC0
    walk_at "go"
    refine i_while 4002 (fun k σ H' => ∃ Cd x6 x7 x8 x9 x10, σ = [some (.ref po), some (.ref pm), some (.ref pk), some (.ref Cd), some (vn (cnA rs mk rooms k)), some (.bl (grA rs mk rooms k)), x6, x7, x8, x9, x10] ∧ Same H H' ∧ H Cd = none ∧ H' Cd = some (.dK (clD rs mk rooms k)) ∧ (grA rs mk rooms k = true → k ≤ cnA rs mk rooms k))
      ⟨C0, none, none, none, none, none, rfl, same_laid hC0, hC0, upd_same, fun _ => Nat.zero_le _⟩ (fun n σ H' hq => ?_)
    obtain ⟨Cd, x6, x7, x8, x9, x10, rfl, s1, hCd0, hCd, hgr⟩ := hq
    have hcn := cnA_le rs mk rooms n
    walk_at "go"
    refine iteB (fun hg => ?_) (fun hg => ?_)
    · have hgn := hgr hg
      refine whT (by omega) ?_
      walk_at "go"
      intro N oN hN nN
      walk_at "go"
      intro R hR
      have hNR : N ≠ R := nN.old.elim fun o e => ne_of_none e hR
      have hR' : H' R = none := by
        rw [upd_ne hNR.symm] at hR
        exact hR
      walk_at "go"
      have sI : Same H' (upd (upd H' N oN) R (.dK [])) := Same.put (same_laid hN) hR'
      refine seq_for (t := false) (sI _ _ (s1 _ _ ho)) (fun i σ H3 => ∃ x8 x9 x10, σ = [some (.ref po), some (.ref pm), some (.ref pk), some (.ref Cd), some (vn (cnA rs mk rooms n)), some (.bl (grA rs mk rooms n)), some (.ref N), some (.ref R), x8, x9, x10] ∧ Same H' H3 ∧
          NDict P w H3 N (mapN (dd ((rooms.take i).map (sigA rs mk rooms n))) (numD (dd (rooms.map (sigA rs mk rooms n))))) ∧ H3 R = some (.dK (mapK (rooms.take i) fun r => vn (clsA rs mk rooms n r))))
        ⟨x8, x9, x10, rfl, sI, nN.same (same_laid hR), upd_same⟩ (fun i σ H3 _ ⟨_, _, _, _, s3, _⟩ => s3 _ _ (s1 _ _ ho)) (fun i v σ H3 hv hq => ?_) (fun σ H3 hq => ?_)
      · obtain ⟨y8, y9, y10, rfl, s3, n3, hR3⟩ := hq
        obtain ⟨r, hr1, rfl⟩ := at_map hv
        have hrm := List.mem_of_getElem? hr1
        obtain ⟨hrl, hrt⟩ := hin r hrm
        walk_at "go"
        refine i_cut (fun σ H4 => ∃ p x10, σ = [some (.ref po), some (.ref pm), some (.ref pk), some (.ref Cd), some (vn (cnA rs mk rooms n)), some (.bl (grA rs mk rooms n)), some (.ref N), some (.ref R), some (vn r), some (.ref p), x10] ∧ Same H3 H4 ∧ KeyAt H4 (sigA rs mk rooms n r) (.ref p)) ?_ (fun σ H4 hq => ?_)
        · walk_at "go"
          cases n with
          | zero =>
            refine ite_dt rfl ?_
            walk_at "go"
            refine i_ixL (s3 _ _ (s1 _ _ hk)) (v := .bl (mk r)) (atI_nat (by rw [List.getElem?_map, List.getElem?_range hrl]; rfl)) ?_
            walk_at "go"
            refine ⟨sz1, fun p hp => ?_⟩
            walk_at "go"
            exact ⟨p, _, rfl, same_laid hp, keyA0 upd_same⟩
          | succ j =>
            have hc0 := cnA_pos (rs := rs) (mk := mk) h0 j
            refine ite_df (by omega) ?_
            walk_at "go"
            obtain ⟨t, vs, a, ha, hvl, hva, hia, ti, hi2⟩ := hm.at hrl
            have hwr := hw.row_len hrl
            refine r_dget (s3 _ _ hCd) (valV_mapK_in hrm) ?_
            walk_at "go"
            refine i_ixQ (s3 _ _ (s1 _ _ ha)) hva ?_
            have ha3 := s3 _ _ (s1 _ _ hi2)
            have hlrow : (row rs r).length ≤ 1000000 := by
              have := hw.m3
              omega
            refine seq_lc ha3 (fun D hD => ⟨fun q H5 => q ≤ (row rs r).length ∧ H5 = upd H3 D (.lst (((row rs r).take q).map fun t => vn (clsA rs mk rooms j t))), ⟨Nat.zero_le _, rfl⟩, fun q H5 _ ⟨_, e⟩ => by rw [e, upd_ne (ne_of_none ha3 hD)]; exact ha3, fun q v H5 hvq hq => ?_, fun H5 hq => ?_⟩)
            · obtain ⟨_, rfl⟩ := hq
              obtain ⟨u, hu, rfl⟩ := at_map hvq
              have hq' := (List.getElem?_eq_some_iff.mp hu).1
              walk_at "go"
              refine r_dget (by rw [upd_ne (ne_of_none (s3 _ _ hCd) hD)]; exact s3 _ _ hCd) (valV_mapK_in (hrt u (List.mem_of_getElem? hu))) ?_
              exact ⟨_, upd_same, szlt (by rw [List.length_map, List.length_take]; omega), hq', upd_lst (by rw [take_at hu, List.map_append]; rfl)⟩
            · obtain ⟨_, rfl⟩ := hq
              walk_at "go"
              refine i_tupleOfL upd_same (fun TT hTT => ?_)
              walk_at "go"
              refine ⟨sz2, fun p hp => ?_⟩
              walk_at "go"
              refine ⟨p, _, rfl, ((same_laid hD).trans (same_laid hTT)).trans (same_laid hp), ?_⟩
              have e : (List.map vn (row rs r)).length = (row rs r).length := List.length_map ..
              have k1 := keyA1 (H := upd (upd (upd H3 D (.lst (((row rs r).take (List.map vn (row rs r)).length).map fun t => vn (clsA rs mk rooms j t)))) TT (.tup (((row rs r).take (List.map vn (row rs r)).length).map fun t => vn (clsA rs mk rooms j t)))) p (.tup [vn (clsA rs mk rooms j r), .ref TT])) (p := p) (q := TT) (c := clsA rs mk rooms j r) (ts := (row rs r).map (clsA rs mk rooms j)) upd_same (by
                rw [upd_ne (ne_of_none upd_same hp), upd_same, e, List.take_length, List.map_map]
                rfl)
              rw [List.map_map] at k1
              simp only [sigA]
              exact k1
        · obtain ⟨p, z10, rfl, s4, ky⟩ := hq
          refine i_cut (fun σ H5 => σ = [some (.ref po), some (.ref pm), some (.ref pk), some (.ref Cd), some (vn (cnA rs mk rooms n)), some (.bl (grA rs mk rooms n)), some (.ref N), some (.ref R), some (vn r), some (.ref p), z10] ∧ Same H' H5 ∧ KeyAt H5 (sigA rs mk rooms n r) (.ref p) ∧
            NDict P w H5 N (mapN (dd ((rooms.take (i + 1)).map (sigA rs mk rooms n))) (numD (dd (rooms.map (sigA rs mk rooms n))))) ∧ H5 R = some (.dK (mapK (rooms.take i) fun r => vn (clsA rs mk rooms n r)))) ?_ (fun σ H5 hq => ?_)
          · walk_at "go"
            have hk1 : (rooms.take (i + 1)).map (sigA rs mk rooms n) = (rooms.take i).map (sigA rs mk rooms n) ++ [sigA rs mk rooms n r] := by
              rw [take_at hr1, List.map_append]
              rfl
            have hl2 : (dd ((rooms.take i).map (sigA rs mk rooms n))).length ≤ 4000 := by
              have := len_dd ((rooms.take i).map (sigA rs mk rooms n))
              rw [List.length_map, List.length_take] at this
              omega
            have n4 := n3.same s4
            refine r_nnotin n4 ky ?_
            walk_at "go"
            by_cases hin' : sigA rs mk rooms n r ∈ dd ((rooms.take i).map (sigA rs mk rooms n))
            · rw [lookN_in hin']
              refine iteNT ?_
              walk_at "go"
              refine ⟨rfl, s3.trans s4, ky, ?_, s4 _ _ hR3⟩
              rw [hk1, dd_snoc, addN, if_pos hin']
              exact n4
            · rw [lookN_no hin']
              refine iteNF ?_
              walk_at "go"
              refine i_lenN n4 ?_
              walk_at "go"
              refine r_nput n4 ky (by rw [mapN_len]; omega) (fun o n5 => ?_)
              have hNR4 : N ≠ R := hNR
              walk_at "go"
              refine ⟨rfl, Same.put (s3.trans s4) hN, ky.kp (tkp_upd n4.nottup), ?_, by rw [upd_ne hNR.symm]; exact s4 _ _ hR3⟩
              rw [hk1, dd_snoc, addN, if_neg hin']
              rw [putN_mapN hin' ?_] at n5
              · exact n5
              · show V.int _ = V.int _
                rw [mapN_len]
                have z : (rooms.map (sigA rs mk rooms n))[i]? = some (sigA rs mk rooms n r) := map_at' hr1
                have z2 := pl_take z (by rw [← List.map_take]; exact hin')
                rw [z2, ← List.map_take]
          · obtain ⟨rfl, s5, ky5, n5, hR5⟩ := hq
            walk_at "go"
            have hnR : r ∉ rooms.take i := fun z => by
              obtain ⟨q, hq1, hq2⟩ := List.mem_iff_getElem.mp z
              rw [List.length_take] at hq1
              rw [List.getElem_take] at hq2
              obtain ⟨hi1, hi2⟩ := List.getElem?_eq_some_iff.mp hr1
              exact List.pairwise_iff_getElem.mp hnd q i (by omega) hi1 (by omega) (hq2.trans hi2.symm)
            refine r_nget n5 ky5 (lookN_in (by rw [mem_dd, take_at hr1, List.map_append]; exact List.mem_append_right _ (List.mem_singleton.mpr rfl))) ?_
            walk_at "go"
            refine r_dput hR5 (by rw [mapK_len, List.length_take]; omega) ?_
            refine ⟨_, _, _, rfl, Same.put s5 hR', n5.upd hNR (by intro vs; rw [hR5]; intro z; cases z), ?_⟩
            rw [upd_same, take_at hr1, putK_mapK hnR]
            rw [clsA_eq]
            rfl
      · obtain ⟨y8, y9, y10, rfl, s3, n3, hR3⟩ := hq
        walk_at "go"
        refine i_lenN n3 ?_
        walk_at "go"
        refine i_lenN n3 ?_
        walk_at "go"
        have e1 : (mapN (dd ((rooms.take (List.map vn rooms).length).map (sigA rs mk rooms n))) (numD (dd (rooms.map (sigA rs mk rooms n))))).length = cnA rs mk rooms (n + 1) := by
          rw [mapN_len, List.length_map, List.take_length]
          rfl
        rw [e1]
        have hgr1 : grA rs mk rooms (n + 1) = decide ((cnA rs mk rooms n : Int) < (cnA rs mk rooms (n + 1) : Int)) := by
          show decide (cnA rs mk rooms n < cnA rs mk rooms (n + 1)) = _
          by_cases h : cnA rs mk rooms n < cnA rs mk rooms (n + 1)
          · rw [decide_eq_true h, decide_eq_true (by omega)]
          · rw [decide_eq_false h, decide_eq_false (by omega)]
        refine ⟨R, some (.ref N), some (.ref R), y8, y9, y10, ?_, s1.trans s3, ?_, ?_, ?_⟩
        · rw [hgr1]
          rfl
        · cases e : H R with
          | none => rfl
          | some o => rw [s1 _ _ e] at hR'; cases hR'
        · rw [hR3, List.length_map, List.take_length]
          rfl
        · rw [hgr1]
          intro z
          have := of_decide_eq_true z
          omega
    · walk_at "go"
      cases n with
      | zero => cases hg
      | succ n =>
        have hle : cnA rs mk rooms (n + 1) ≤ cnA rs mk rooms n := Nat.le_of_not_lt (of_decide_eq_false hg)
        cases n with
        | zero => 
          have z1 := cnA_pos (rs := rs) (mk := mk) h0 0
          have z2 : cnA rs mk rooms 0 = 0 := rfl
          omega
        | succ j => exact k j Cd _ hle s1 hCd0 hCd
end
abbrev s_least_table : Stmt := top 24
theorem sc_least_table : FnScope ["moves", "marks", "rooms", "classes", "numbers", "heads", "room", "least_moves", "target"] ["moves", "marks"] (fnScope s_least_table) := ⟨rfl, rfl, rfl, by decide +kernel, rfl, by decide +kernel, by decide +kernel⟩
def sp_least_table : Sp := fun vs H Q _ => ∃ (Z : AS) (pm pk : Addr) (rs : Rws) (mk : Nat → Bool) (m : Nat), vs = [.ref pm, .ref pk] ∧ Rows Z H pm rs ∧ H pk = some (.lst ((List.range rs.length).map fun r => .bl (mk r))) ∧ WFB m rs ∧
  ∀ j i o g a b c H', o = scanAt rs i → o.length = i → cnt o (sigA rs mk o (j + 1)) ≤ cnt o (sigA rs mk o j) → g = clsA rs mk o (j + 1) → Same H H' → H' a = some (.tup [.ref b, .ref c]) → H a = none → RowsT (Old H) H' b (lrows rs o g) → H' c = some (.tup ((lmarks mk o g).map V.bl)) → Q (.ref a) H'
section
variable {P : Program} {w : World} {K : PySem.W.Frag} {mg : Str → Option Value} {base : Heap} {C : Addr} {r : Er}
set_option maxHeartbeats 4000000 in
theorem ok_least_table {f : Addr} {fd : FuncData} (F : Def K mg "least_table" s_least_table f fd) (T : Txt K mg C r) (b : Binds K fd ["moves", "marks"] []) (c_reached_rooms : Cal P w K mg base 1 "reached_rooms" sp_reached_rooms []) (c_room_classes : Cal P w K mg base 1 "room_classes" sp_room_classes []) : Cal P w K mg base 2 "least_table" (sp_least_table) [] := by
  refine cal0 F b .nil sc_least_table (fun vs H Q E h => ?_) (fun cdv A outer s H vs Q E hr h => ?_)
  · obtain ⟨_, _, _, _, _, _, rfl, _⟩ := h
    rfl
  · obtain ⟨Z, pm, pk, rs, mk, m, rfl, hm, hk, hw, k⟩ := h
    refine ⟨_, (pss_cons (ps_set (i := 2) sc_least_table.nd rfl (by first | exact Or.inl rfl | exact Or.inr rfl) (pe_c c_reached_rooms hr (by decide) rfl (pa_cons (pv 0) pa_nil)))
        (pss_cons (ps_set (i := 3) sc_least_table.nd rfl (by first | exact Or.inl rfl | exact Or.inr rfl) (pe_c c_room_classes hr (by decide) rfl (pa_cons (pv 2) (pa_cons (pv 0) (pa_cons (pv 1) pa_nil)))))
        (pss_cons (ps_set (i := 4) sc_least_table.nd rfl (by first | exact Or.inl rfl | exact Or.inr rfl) pe_dnewK)
        (pss_cons (ps_set (i := 5) sc_least_table.nd rfl (by first | exact Or.inl rfl | exact Or.inr rfl) (pe_lst pa_nil))
        (pss_cons (ps_for PassesOwn.never rfl (seqK K rfl (pv 2)) (pg_name (i := 6) sc_least_table.nd rfl (by first | exact Or.inl rfl | exact Or.inr rfl))
        (pss_one (ps_if (pt_cmp (pc_dnotin (hu_of hr) (pe_dget (hu_of hr) (pv 3) (pv 6) (fun _ _ => rfl)) (pv 4))) (pss_cons (ps_dput (hu_of hr) (pv 4) (pe_dget (hu_of hr) (pv 3) (pv 6) (fun _ _ => rfl)) (pe_callB (lenK K rfl) (by rfl) T.b_len (by decide +kernel) (pa_cons (pv 5) pa_nil)) rfl)
        (pss_one (ps_expr (bmK K rfl (pe_bm PySem.F.plainAttrs_list PySem.F.slot_list_append PySem.F.type_list_append mt_append (pv 5) (pa_cons (pv 6) pa_nil)))))) pss_nil)))
        (pss_cons (ps_set (i := 7) sc_least_table.nd rfl (by first | exact Or.inl rfl | exact Or.inr rfl) (pe_callTy (tupleK K rfl) (by rfl) T.b_tuple (by decide +kernel) (pa_cons (pe_lc (own := [("room", 6)]) rfl sc_least_table.nd (seqK K rfl (pv 5)) (blkOk_by (by kernel_rfl)) (fun _ _ _ _ _ => (pg_name (i := 6) sc_least_table.nd rfl (by first | exact Or.inl rfl | exact Or.inr rfl))) (fun _ _ _ _ _ => pts_nil) (fun _ _ _ _ _ => (pe_callTy (tupleK K rfl) (by rfl) T.b_tuple (by decide +kernel) (pa_cons (pe_lc (own := [("target", 8)]) rfl sc_least_table.nd (seqK K rfl (pe_ix (ixK K rfl) (pv 0) (pv 6) (fun _ _ => rfl))) (blkOk_by (by kernel_rfl)) (fun _ _ _ _ _ => (pg_name (i := 8) sc_least_table.nd rfl (by first | exact Or.inl rfl | exact Or.inr rfl))) (fun _ _ _ _ _ => pts_nil) (fun _ _ _ _ _ => (pe_dget (hu_of hr) (pv 4) (pe_dget (hu_of hr) (pv 3) (pv 8) (fun _ _ => rfl)) (fun _ _ => rfl)))) pa_nil)))) pa_nil)))
        (pss_one (ps_ret (pe_tup (pa_cons (pv 7) (pa_cons (pe_callTy (tupleK K rfl) (by rfl) T.b_tuple (by decide +kernel) (pa_cons (pe_lc (own := [("room", 6)]) rfl sc_least_table.nd (seqK K rfl (pv 5)) (blkOk_by (by kernel_rfl)) (fun _ _ _ _ _ => (pg_name (i := 6) sc_least_table.nd rfl (by first | exact Or.inl rfl | exact Or.inr rfl))) (fun _ _ _ _ _ => pts_nil) (fun _ _ _ _ _ => (pe_ix (ixK K rfl) (pv 1) (pv 6) (fun _ _ => rfl)))) pa_nil)) pa_nil))))))))))), ?_⟩
    walk_at "go"
    refine ⟨Z, pm, rs, m, rfl, hm, hw, fun i po H1 hi hpo s1 hpo1 => ?_⟩
    walk_at "go"
    have hsl := hw.scan_len i
    have hle := hw.le
    have hm3 := hw.m3
    have hin : ∀ r ∈ scanAt rs i, r < rs.length ∧ ∀ t ∈ row rs r, t ∈ scanAt rs i := fun r hr => ⟨hw.scan_lt i r hr, fun t ht => scan_closed (by omega) hr ht⟩
    refine ⟨Z, po, pm, pk, scanAt rs i, rs, mk, m, rfl, hpo1, hm.same s1, s1 _ _ hk, hw, by omega, scan_has0 i, scan_nd rs i, hin, fun j cd H2 hcn s2 hcd0 hcd => ?_⟩
    generalize ho : scanAt rs i = o at *
    generalize hg : clsA rs mk o (j + 1) = g at *
    walk_at "go"
    intro N hN
    walk_at "go"
    refine ⟨szl (by show 0 ≤ 16777216; decide), fun D hD => ?_⟩
    walk_at "go"
    have hND : N ≠ D := ne_of_none upd_same hD
    have hD2 : H2 D = none := by
      rw [upd_ne hND.symm] at hD
      exact hD
    have s02 := s1.trans s2
    have sI : Same H2 (upd (upd H2 N (.dK [])) D (.lst [])) := Same.put (same_laid hN) hD2
    refine seq_for (t := false) (sI _ _ (s2 _ _ hpo1)) (fun q σ H3 => ∃ x6 x7 x8, σ = [some (.ref pm), some (.ref pk), some (.ref po), some (.ref cd), some (.ref N), some (.ref D), x6, x7, x8] ∧ Same H2 H3 ∧ H3 N = some (.dK (mapK (dd ((o.take q).map g)) (numD (dd (o.map g))))) ∧ H3 D = some (.lst ((headsOf (o.take q) g).map vn)))
      ⟨none, none, none, rfl, sI, by rw [upd_ne hND, upd_same]; rfl, upd_same⟩ (fun q σ H3 _ ⟨_, _, _, _, s3, _⟩ => s3 _ _ (s2 _ _ hpo1)) (fun q v σ H3 hv hq => ?_) (fun σ H3 hq => ?_)
    · obtain ⟨x6, x7, x8, rfl, s3, hN3, hD3⟩ := hq
      obtain ⟨r, hr1, rfl⟩ := at_map hv
      have hrm := List.mem_of_getElem? hr1
      have hk1 : (o.take (q + 1)).map g = (o.take q).map g ++ [g r] := by
        rw [take_at hr1, List.map_append]
        rfl
      have hl2 : (dd ((o.take q).map g)).length ≤ 4000 := by
        have := len_dd ((o.take q).map g)
        rw [List.length_map, List.length_take] at this
        omega
      have hmm : ∀ x, x ∈ (headsOf (o.take q) g).map g ↔ x ∈ dd ((o.take q).map g) := fun x => by rw [heads_map]
      walk_at "go"
      refine r_dget (s3 _ _ hcd) (valV_mapK_in hrm) ?_
      walk_at "go"
      refine r_dnotin hN3 ?_
      walk_at "go"
      by_cases hin' : g r ∈ dd ((o.take q).map g)
      · rw [valV_mapK_in hin']
        refine iteNT ?_
        walk_at "go"
        refine ⟨_, _, _, rfl, s3, ?_, ?_⟩
        · rw [hk1, dd_snoc, addN, if_pos hin']
          exact hN3
        · rw [take_at hr1, headsOf_snoc, if_pos ((hmm _).mpr hin')]
          exact hD3
      · rw [valV_mapK_no hin']
        refine iteNF ?_
        walk_at "go"
        refine r_dget (s3 _ _ hcd) (valV_mapK_in hrm) ?_
        refine r_dput hN3 (by rw [mapK_len]; omega) ?_
        walk_at "go"
        have hDN : D ≠ N := hND.symm
        refine i_append (xs := (headsOf (o.take q) g).map vn) (by rw [upd_ne hDN]; exact hD3) (by rw [List.length_map, heads_len]; omega) ?_
        walk_at "go"
        refine ⟨_, _, _, rfl, Same.put (Same.put s3 hN) hD2, ?_, ?_⟩
        · rw [upd_ne hND, upd_same, hk1, dd_snoc, addN, if_neg hin', putK_mapK hin' ?_]
          rw [List.length_map, heads_len]
          have z2 := pl_take (map_at' (f := g) hr1) (by rw [← List.map_take]; exact hin')
          show V.int _ = V.int _
          rw [z2, ← List.map_take]
        · rw [upd_same, take_at hr1, headsOf_snoc, if_neg (fun z => hin' ((hmm _).mp z)), List.map_append]
          rfl
    · obtain ⟨x6, x7, x8, rfl, s3, hN3, hD3⟩ := hq
      have el : (List.map vn o).length = o.length := List.length_map ..
      rw [el, List.take_length] at hN3 hD3
      have hhl : (headsOf o g).length ≤ 4000 := by
        rw [heads_len]
        have := len_dd (o.map g)
        rw [List.length_map] at this
        omega
      have s03 := s02.trans s3
      walk_at "go"
      refine seq_lc (t := false) hD3 (fun E hE => ⟨fun q H4 => Same H3 H4 ∧ ∃ bs, H4 E = some (.lst (bs.map V.ref)) ∧ Paired (fun a r => IntsT (Old H) H4 a r) bs ((lrows rs o g).take q), ⟨same_laid hE, [], upd_same, by simp; exact .nil⟩, fun q H4 _ ⟨e, _⟩ => e _ _ hD3, fun q v H4 hvq hq => ?_, fun H4 hq => ?_⟩)
      · obtain ⟨s4, bs, hE4, hbs⟩ := hq
        obtain ⟨h, hh, rfl⟩ := at_map hvq
        have hho : h ∈ o := heads_mem (List.mem_of_getElem? hh)
        obtain ⟨hhl1, hht⟩ := hin h hho
        obtain ⟨t, vs, a, ha, hvl, hva, hia, ti, hi2⟩ := hm.at hhl1
        have hq' := (List.getElem?_eq_some_iff.mp hh).1
        have hwr := hw.row_len hhl1
        have s04 := s03.trans s4
        walk_at "go"
        refine i_ixQ (s04 _ _ ha) hva ?_
        have ha4 := s04 _ _ hi2
        refine seq_lc ha4 (fun F hF => ⟨fun q H5 => q ≤ (row rs h).length ∧ H5 = upd H4 F (.lst (((row rs h).take q).map fun t => vn (num o g t))), ⟨Nat.zero_le _, rfl⟩, fun q H5 _ ⟨_, e⟩ => by rw [e, upd_ne (ne_of_none ha4 hF)]; exact ha4, fun q v H5 hvq hq => ?_, fun H5 hq => ?_⟩)
        · obtain ⟨_, rfl⟩ := hq
          obtain ⟨u, hu, rfl⟩ := at_map hvq
          have hq2 := (List.getElem?_eq_some_iff.mp hu).1
          have huo := hht u (List.mem_of_getElem? hu)
          have hcd4 := s4 _ _ (s3 _ _ hcd)
          have hN4 := s4 _ _ hN3
          walk_at "go"
          refine r_dget (by rw [upd_ne (ne_of_none hcd4 hF)]; exact hcd4) (valV_mapK_in huo) ?_
          refine r_dget (by rw [upd_ne (ne_of_none hN4 hF)]; exact hN4) (valV_mapK_in (mem_dd.mpr (List.mem_map.mpr ⟨u, huo, rfl⟩))) ?_
          exact ⟨_, upd_same, szlt (by rw [List.length_map, List.length_take]; omega), hq2, upd_lst (by rw [take_at hu, List.map_append]; rfl)⟩
        · obtain ⟨_, rfl⟩ := hq
          walk_at "go"
          refine i_tupleOfL upd_same (fun TT hTT => ?_)
          have hF0 := same_free s4 hF
          have sF : Same H4 (upd (upd H4 F (.lst (((row rs h).take (List.map vn (row rs h)).length).map fun t => vn (num o g t)))) TT (.tup (((row rs h).take (List.map vn (row rs h)).length).map fun t => vn (num o g t)))) := (same_laid hF).trans (same_laid hTT)
          have hTE : TT ≠ E := (ne_of_none (sF _ _ hE4 |> fun z => (show upd H4 F _ E = _ from by rw [upd_ne (ne_of_none hE4 hF)]; exact hE4)) hTT).symm
          have hTH : H TT = none := same_free ((s04.trans (same_laid hF))) hTT
          refine ⟨bs.map V.ref, sF _ _ hE4, szlt (by rw [List.length_map, hbs.length, List.length_take]; unfold lrows; rw [List.length_map]; omega), Same.put (s4.trans sF) hE, bs ++ [TT], by rw [upd_same, List.map_append]; rfl, ?_⟩
          have hrw : (lrows rs o g)[q]? = some ((row rs h).map (num o g)) := map_at' hh
          rw [take_at hrw]
          refine U.Paired.snoc (Paired.mapP hbs fun b r z => ⟨z.1, ?_⟩) ⟨Old.none hTH, ?_⟩
          · have hbE : b ≠ E := fun e => by
              have z2 := z.2
              rw [e, hE4] at z2
              cases z2
            rw [upd_ne hbE]
            exact sF _ _ z.2
          · rw [upd_ne hTE, upd_same]
            have e : (List.map vn (row rs h)).length = (row rs h).length := List.length_map ..
            rw [e, List.take_length, List.map_map]
            rfl
      · obtain ⟨s4, bs, hE4, hbs⟩ := hq
        walk_at "go"
        refine i_tupleOfL hE4 (fun b hb => ?_)
        walk_at "go"
        have s5 : Same H4 (upd H4 b (.tup (bs.map V.ref))) := same_laid hb
        have hhl' : (List.map vn (headsOf o g)).length = (lrows rs o g).length := by
          unfold lrows
          rw [List.length_map, List.length_map]
        rw [hhl', List.take_length] at hbs
        have hD5 := s5 _ _ (s4 _ _ hD3)
        refine seq_lc (t := false) hD5 (fun G hG => ⟨fun q H6 => q ≤ (headsOf o g).length ∧ H6 = upd (upd H4 b (.tup (bs.map V.ref))) G (.lst (((headsOf o g).take q).map fun r => .bl (mk r))), ⟨Nat.zero_le _, rfl⟩, fun q H6 _ ⟨_, e⟩ => by rw [e, upd_ne (ne_of_none hD5 hG)]; exact hD5, fun q v H6 hvq hq => ?_, fun H6 hq => ?_⟩)
        · obtain ⟨_, rfl⟩ := hq
          obtain ⟨h, hh, rfl⟩ := at_map hvq
          have hho : h ∈ o := heads_mem (List.mem_of_getElem? hh)
          obtain ⟨hhl1, hht⟩ := hin h hho
          have hq' := (List.getElem?_eq_some_iff.mp hh).1
          have hk5 := s5 _ _ (s4 _ _ (s03 _ _ hk))
          walk_at "go"
          refine i_ixL (by rw [upd_ne (ne_of_none hk5 hG)]; exact hk5) (v := .bl (mk h)) (atI_nat (by rw [List.getElem?_map, List.getElem?_range hhl1]; rfl)) ?_
          exact ⟨_, upd_same, szlt (by rw [List.length_map, List.length_take]; omega), hq', upd_lst (by rw [take_at hh, List.map_append]; rfl)⟩
        · obtain ⟨_, rfl⟩ := hq
          walk_at "go"
          refine i_tupleOfL upd_same (fun c hc => ?_)
          refine ⟨sz2, fun a ha => ?_⟩
          have s6 : Same (upd H4 b (.tup (bs.map V.ref))) (upd (upd (upd H4 b (.tup (bs.map V.ref))) G (.lst (((headsOf o g).take (List.map vn (headsOf o g)).length).map fun r => .bl (mk r)))) c (.tup (((headsOf o g).take (List.map vn (headsOf o g)).length).map fun r => .bl (mk r)))) := (same_laid hG).trans (same_laid hc)
          have s7 := (s6.trans (same_laid (o := .tup [.ref b, .ref c]) ha))
          have s08 := (s03.trans s4).trans s5
          refine k j i o g a b c _ ho.symm (by omega) hcn hg.symm (s08.trans s7) upd_same (same_free (s08.trans s6) ha) ?_ ?_
          · refine ⟨Old.none (same_free (s03.trans s4) hb), bs, s7 _ _ upd_same, Paired.mapP hbs fun x r z => z.same (s5.trans s7)⟩
          · rw [upd_ne (ne_of_none upd_same ha), upd_same]
            have e : (List.map vn (headsOf o g)).length = (headsOf o g).length := List.length_map ..
            rw [e, List.take_length]
            unfold lmarks
            rw [List.map_map]
            rfl
end
abbrev s_reader_of_table : Stmt := top 32
theorem sc_reader_of_table : FnScope ["alphabet", "moves", "marks", "least_moves", "least_marks", "room"] ["alphabet", "moves", "marks"] (fnScope s_reader_of_table) := ⟨rfl, rfl, rfl, by decide +kernel, rfl, by decide +kernel, by decide +kernel⟩
def sp_reader_of_table (C : Addr) (r : Er) : Sp := fun vs H Q E => ∃ (Z : AS) (al : List Nat) (pm pk : Addr) (rs : Rws) (mk : Nat → Bool), vs = [.str (SX.S al), .ref pm, .ref pk] ∧ Rows Z H pm rs ∧ H pk = some (.lst ((List.range rs.length).map fun r => .bl (mk r))) ∧ AlOk al ∧ WFB al.length rs ∧
  ∀ j i o g, o = scanAt rs i → o.length = i → cnt o (sigA rs mk o (j + 1)) ≤ cnt o (sigA rs mk o j) → g = clsA rs mk o (j + 1) → ((lrows rs o g).length ≤ 60 → ∀ p H', Same H H' → H p = none → Rd C (Old H) H' p al (lrows rs o g) (lgood mk o g) → Q (.ref p) H') ∧
    (60 < (lrows rs o g).length → ∀ d H', Same H H' → H d = none → H' d = some (.xd [("what", .str "room")]) → E (.ref r.TooMany) (some d) H')
section
variable {P : Program} {w : World} {K : PySem.W.Frag} {mg : Str → Option Value} {base : Heap} {C : Addr} {r : Er}
set_option maxHeartbeats 4000000 in
theorem ok_reader_of_table {f : Addr} {fd : FuncData} (F : C8.Def K mg "reader_of_table" s_reader_of_table f fd) (T : Txt K mg C r) (b : Binds K fd ["alphabet", "moves", "marks"] []) (c_least_table : Cal P w K mg base 2 "least_table" sp_least_table []) (m_Reader : Mak P w K mg base 3 "Reader" C (sp_Readerd_initd C) []) (e_TooMany : MakE P w K mg base "TooMany" r.TooMany r.TooMany "what" FmtOk) : CalX P w K mg base 5 "reader_of_table" (sp_reader_of_table C r) := by
  refine calX F b sc_reader_of_table (fun vs H Q E h => ?_) (fun cdv A outer s H vs Q E hr h => ?_)
  · obtain ⟨_, _, _, _, _, _, rfl, _⟩ := h
    rfl
  · obtain ⟨Z, al, pm, pk, rs, mk, rfl, hm, hk, ha, hw, k⟩ := h
    refine ⟨_, (pss_cons (PS_nox (ps_asg (pe_c c_least_table hr (by decide) rfl (pa_cons (pv 1) (pa_cons (pv 2) pa_nil))) (pg_tup rfl (pgs_cons (pg_name (i := 3) sc_reader_of_table.nd rfl (by first | exact Or.inl rfl | exact Or.inr rfl)) (pgs_cons (pg_name (i := 4) sc_reader_of_table.nd rfl (by first | exact Or.inl rfl | exact Or.inr rfl)) pgs_nil)))))
        (pss_cons (ps_if (pt_cmpR op_gt (pe_callB (lenK K rfl) (by rfl) T.b_len (by decide +kernel) (pa_cons (pv 3) pa_nil)) (pe_gc rfl T.c_MOST_ROOMS) (nomark _)) (pss_one (ps_raiseE rfl (takes_of rfl rfl rfl rfl) e_TooMany hr (by decide) rfl (pa_cons pe_str pa_nil))) pss_nil)
        (pss_one (PS_nox (ps_ret (pe_mk m_Reader hr (by decide) rfl (pa_cons (pv 0) (pa_cons (pv 3) (pa_cons (pe_lc (own := [("room", 5)]) rfl sc_reader_of_table.nd (pi_range1 (by rfl) T.b_range (pa_cons (pe_callB (lenK K rfl) (by rfl) T.b_len (by decide +kernel) (pa_cons (pv 3) pa_nil)) pa_nil)) (blkOk_by (by kernel_rfl)) (fun _ _ _ _ _ => (pg_name (i := 5) sc_reader_of_table.nd rfl (by first | exact Or.inl rfl | exact Or.inr rfl))) (fun _ _ _ _ _ => (pts_one (pt_val (pe_ix (ixK K rfl) (pv 4) (pv 5) (fun _ _ => rfl))))) (fun _ _ _ _ _ => (pv 5))) pa_nil))))))))), ?_⟩
    walk_at "go"
    refine ⟨Z, pm, pk, rs, mk, al.length, rfl, hm, hk, hw, fun j i o g a b c H1 ho hi0 hcn hg s1 ha1 ha0 hb hc => ?_⟩
    walk_at "go"
    obtain ⟨vs, hv, hvl⟩ := hb.len
    have hwB : WFB al.length (lrows rs o g) := by rw [ho]; exact hw.lrows (by rw [← ho]; exact hi0) g
    have hleB := hwB.le
    obtain ⟨k1, k2⟩ := k j i o g ho hi0 hcn hg
    refine i_lenT hv ?_
    walk_at "go"
    refine iteD (fun hx => ?_) (fun hx => ?_)
    · walk_at "go"
      refine mkE_end e_TooMany.ic (.inl ⟨"room", rfl, by decide⟩) (fun d hd => ?_)
      exact k2 (by have : (60 : Int) < _ := hx; omega) d _ (s1.trans (same_laid hd)) (same_free s1 hd) upd_same
    have hle : (lrows rs o g).length ≤ 60 := by
      have : ¬ (60 : Int) < _ := hx
      omega
    have hw' : WF al.length (lrows rs o g) := ⟨hwB, hle⟩
    walk_at "go"
    refine ⟨by omega, by omega, fun D hD => ?_⟩
    rw [Int.toNat_natCast, hvl]
    refine rng0_lc (fun q H' => q ≤ (lrows rs o g).length ∧ H' = upd H1 D (.lst (((List.range q).filter fun r => (lmarks mk o g).getD r false).map vn))) ⟨Nat.zero_le _, rfl⟩ (fun q H' hi hq => ?_) (fun H' hq => ?_)
    · obtain ⟨_, rfl⟩ := hq
      have hlm : (lmarks mk o g).length = (lrows rs o g).length := by
        unfold lmarks lrows
        rw [List.length_map, List.length_map]
      walk_at "go"
      have hat : (lmarks mk o g)[q]? = some ((lmarks mk o g).getD q false) := by
        rw [List.getD_eq_getElem?_getD, List.getElem?_eq_getElem (by omega)]
        rfl
      refine i_ixT (by rw [upd_ne (ne_of_none hc hD)]; exact hc) (atI_nat (map_at hat)) ?_
      walk_at "go"
      have hlq : (((List.range q).filter fun r => (lmarks mk o g).getD r false).map vn).length < 16777216 := by
        rw [List.length_map]
        have := List.length_filter_le (fun r => (lmarks mk o g).getD r false) (List.range q)
        rw [List.length_range] at this
        omega
      refine iteB (fun hb => ?_) (fun hb => ?_)
      · walk_at "go"
        exact ⟨_, upd_same, szlt hlq, hi, upd_lst (by rw [range_filter_t hb, List.map_append]; rfl)⟩
      · exact ⟨hi, by rw [range_filter_f hb]⟩
    · obtain ⟨_, rfl⟩ := hq
      walk_at "go"
      intro x dx hx hdx hne
      have s2 : Same H1 (upd H1 D (.lst (((List.range (lrows rs o g).length).filter fun r => (lmarks mk o g).getD r false).map vn))) := same_laid hD
      have s3 : Same (upd H1 D (.lst (((List.range (lrows rs o g).length).filter fun r => (lmarks mk o g).getD r false).map vn))) (upd (upd (upd H1 D (.lst (((List.range (lrows rs o g).length).filter fun r => (lmarks mk o g).getD r false).map vn))) dx (.own x)) x (.ins C dx [])) := (same_laid hdx).trans (same_laid (by rw [upd_ne hne.symm]; exact hx))
      have s03 := (s1.trans s2).trans s3
      have hDx : D ≠ x := ne_of_none upd_same hx
      have hDdx : D ≠ dx := ne_of_none upd_same hdx
      have hgl : (lgood mk o g) = ((List.range (lrows rs o g).length).filter fun r => (lmarks mk o g).getD r false) := by
        unfold lgood
        rw [lrows_len]
      refine ⟨Old H, x, dx, al, b, lrows rs o g, D, lgood mk o g, rfl, fun q hq => let ⟨u, hu⟩ := hq; ⟨u, s03 _ _ hu⟩, upd_same, ha, (hb.same (s2.trans s3)).rows, ⟨Old.none (same_free s1 hD), false, ?_⟩, hw', ?_, fun H' qm qg kk h1 h2 h3 => ⟨rfl, ?_⟩⟩
      · rw [upd_ne hDx, upd_ne hDdx, upd_same, hgl]
        rfl
      · rw [hgl]
        exact GOK.filter _
      · exact k1 hle x H' ((s1.trans s2).trans (made_same hx hdx kk)) (same_free (s1.trans s2) hx) ⟨Old.none (same_free (s1.trans s2) hx), dx, qm, qg, h1, h2, h3⟩
end
abbrev s_check_same_letters : Stmt := top 33
theorem sc_check_same_letters : FnScope ["one", "other"] ["one", "other"] (fnScope s_check_same_letters) := ⟨rfl, rfl, rfl, by decide +kernel, rfl, by decide +kernel, by decide +kernel⟩
def sp_check_same_letters (C : Addr) (r : Er) : Sp := fun vs H Q E => ∃ (Z : AS) (p q : Addr) (al : List Nat) (rs : Rws) (gd : List Nat) (bl : List Nat) (rs' : Rws) (gd' : List Nat), vs = [.ref p, .ref q] ∧ Rd C Z H p al rs gd ∧ Rd C Z H q bl rs' gd' ∧ (al = bl → Q .non H) ∧
  (al ≠ bl → ∀ d H', Same H H' → H d = none → H' d = some (.xd [("what", .str "alphabet")]) → E (.ref r.Unlike) (some d) H')
section
variable {P : Program} {w : World} {K : PySem.W.Frag} {mg : Str → Option Value} {base : Heap} {C : Addr} {r : Er}
set_option maxHeartbeats 4000000 in
theorem ok_check_same_letters {f : Addr} {fd : FuncData} (F : C8.Def K mg "check_same_letters" s_check_same_letters f fd) (T : Txt K mg C r) (b : Binds K fd ["one", "other"] []) (e_Unlike : MakE P w K mg base "Unlike" r.Unlike r.Unlike "what" FmtOk) : CalX P w K mg base 4 "check_same_letters" (sp_check_same_letters C r) := by
  refine calX F b sc_check_same_letters (fun vs H Q E h => ?_) (fun cdv A outer s H vs Q E hr h => ?_)
  · obtain ⟨_, _, _, _, _, _, _, _, _, rfl, _⟩ := h
    rfl
  · obtain ⟨Z, p, q, al, rs, gd, bl, rs', gd', rfl, hp, hq, k1, k2⟩ := h
    refine ⟨_, (pss_one (ps_if (pt_cmpR op_ne (fldK K rfl (pv 0) rfl) (fldK K rfl (pv 1) rfl) (nomark _)) (pss_one (ps_raiseE rfl (takes_of rfl rfl rfl rfl) e_Unlike hr (by decide) rfl (pa_cons pe_str pa_nil))) pss_nil)), ?_⟩
    walk_at "go"
    obtain ⟨hpZ, dx, pm, pg, hp1, hp2, hp3⟩ := hp
    obtain ⟨hqZ, dy, qm, qg, hq1, hq2, hq3⟩ := hq
    refine i_fldR hp1 T.cl T.nA (flds_al al pm pg) ?_
    walk_at "go"
    refine i_fldR hq1 T.cl T.nA (flds_al bl qm qg) ?_
    walk_at "go"
    refine iteDN (fun hx => ?_) (fun hx => ?_)
    · walk_at "go"
      refine mkE_end e_Unlike.ic (.inl ⟨"alphabet", rfl, by decide⟩) (fun d hd => ?_)
      exact k2 (fun e => hx (by rw [e])) d _ (same_laid hd) hd upd_same
    · walk_at "go"
      exact k1 (SX_inj hx)
end
abbrev s_met : Stmt := top 34
theorem sc_met : FnScope ["one", "other", "wanted", "rooms", "moves", "first", "second", "marks", "a", "b"] ["one", "other", "wanted"] (fnScope s_met) := ⟨rfl, rfl, rfl, by decide +kernel, rfl, by decide +kernel, by decide +kernel⟩
/-- whether a text is wanted by where it leads in both -/
def jf (gA gB W : List Nat) (pr : Nat × Nat) : Bool := decide (((if pr.1 ∈ gA then 1 else 0) + (if pr.2 ∈ gB then 2 else 0)) ∈ W)
/-- how a reader of a table comes out -/
def Outs (C : Addr) (r : Er) (al : List Nat) (J : Rws) (gd : List Nat) (H : Hp) (Q : VK) (E : XK) : Prop :=
  (∀ A gA, LeastOf J gd A gA → A.length ≤ 60 → ∀ p H', Same H H' → H p = none → Rd C (Old H) H' p al A gA → Q (.ref p) H') ∧
  (∀ A gA, LeastOf J gd A gA → 60 < A.length → ∀ d H', Same H H' → H d = none → H' d = some (.xd [("what", .str "room")]) → E (.ref r.TooMany) (some d) H')
def jGood (m : Nat) (A B : Rws) (gA gB W : List Nat) (k : Nat) : List Nat := gGood (jf gA gB W) (0, 0) (jAt m A B k)
def sp_met (C : Addr) (r : Er) : Sp := fun vs H Q E => ∃ (Z : AS) (p q pw : Addr) (al : List Nat) (rs : Rws) (gd : List Nat) (bl : List Nat) (rs' : Rws) (gd' : List Nat) (W : List Nat), vs = [.ref p, .ref q, .ref pw] ∧ Rd C Z H p al rs gd ∧ Rd C Z H q bl rs' gd' ∧ H pw = some (.tup (W.map vn)) ∧ AlOk al ∧ WF al.length rs ∧ WF bl.length rs' ∧
  (al = bl → ∀ k, Done (jn al.length rs rs') (0, 0) k → Outs C r al (gRows (jn al.length rs rs') (jAt al.length rs rs' k)) (jGood al.length rs rs' gd gd' W k) H Q E) ∧
  (al ≠ bl → ∀ d H', Same H H' → H d = none → H' d = some (.xd [("what", .str "alphabet")]) → E (.ref r.Unlike) (some d) H')
section
variable {P : Program} {w : World} {K : PySem.W.Frag} {mg : Str → Option Value} {base : Heap} {C : Addr} {r : Er}
set_option maxHeartbeats 4000000 in
theorem ok_met {f : Addr} {fd : FuncData} (F : C8.Def K mg "met" s_met f fd) (T : Txt K mg C r) (b : Binds K fd ["one", "other", "wanted"] []) (c_check_same_letters : CalX P w K mg base 4 "check_same_letters" (sp_check_same_letters C r)) (c_joint_table : Cal P w K mg base 1 "joint_table" sp_joint_table []) (c_good_marks : Cal P w K mg base 1 "good_marks" (sp_good_marks C) []) (c_reader_of_table : CalX P w K mg base 5 "reader_of_table" (sp_reader_of_table C r)) : CalX P w K mg base 6 "met" (sp_met C r) := by
  refine calX F b sc_met (fun vs H Q E h => ?_) (fun cdv A outer s H vs Q E hr h => ?_)
  · obtain ⟨_, _, _, _, _, _, _, _, _, _, _, rfl, _⟩ := h
    rfl
  · obtain ⟨Z, p, q, pw, al, rs, gd, bl, rs', gd', W, rfl, hp, hq, hpw, ha, hw, hw', k1, k2⟩ := h
    refine ⟨_, (pss_cons (ps_expr (pe_cX c_check_same_letters hr (by decide) (takes_of rfl rfl rfl rfl) rfl (pa_cons (pv 0) (pa_cons (pv 1) pa_nil))))
        (pss_cons (PS_nox (ps_asg (pe_c c_joint_table hr (by decide) rfl (pa_cons (fldK K rfl (pv 0) rfl) (pa_cons (fldK K rfl (pv 1) rfl) pa_nil))) (pg_tup rfl (pgs_cons (pg_name (i := 3) sc_met.nd rfl (by first | exact Or.inl rfl | exact Or.inr rfl)) (pgs_cons (pg_name (i := 4) sc_met.nd rfl (by first | exact Or.inl rfl | exact Or.inr rfl)) pgs_nil)))))
        (pss_cons (PS_nox (ps_set (i := 5) sc_met.nd rfl (by first | exact Or.inl rfl | exact Or.inr rfl) (pe_c c_good_marks hr (by decide) rfl (pa_cons (pv 0) pa_nil))))
        (pss_cons (PS_nox (ps_set (i := 6) sc_met.nd rfl (by first | exact Or.inl rfl | exact Or.inr rfl) (pe_c c_good_marks hr (by decide) rfl (pa_cons (pv 1) pa_nil))))
        (pss_cons (PS_nox (ps_setLc (i := 7) (own := [("a", 8), ("b", 9)]) rfl sc_met.nd rfl rfl (sw_true rfl rfl rfl (by decide +kernel)) (seqK K rfl (pv 3)) (blkOk_by (by kernel_rfl)) (fun _ _ _ _ _ => (pgTupK (n := 2) K rfl rfl (pgs_cons (pg_name (i := 8) sc_met.nd rfl (by first | exact Or.inl rfl | exact Or.inr rfl)) (pgs_cons (pg_name (i := 9) sc_met.nd rfl (by first | exact Or.inl rfl | exact Or.inr rfl)) pgs_nil)))) (fun _ _ _ _ _ => pts_nil) (fun _ _ _ _ _ => (pe_cmpR (inK K rfl) (pe_op op_add (pe_ifExp (pt_val (pe_ix (ixK K rfl) (pv 5) (pv 8) (fun _ _ => rfl))) pe_int pe_int) (pe_ifExp (pt_val (pe_ix (ixK K rfl) (pv 6) (pv 9) (fun _ _ => rfl))) pe_int pe_int)) (pv 2) rfl))))
        (pss_one (ps_ret (pe_cX c_reader_of_table hr (by decide) (takes_of rfl rfl rfl rfl) rfl (pa_cons (fldK K rfl (pv 0) rfl) (pa_cons (pv 4) (pa_cons (pv 7) pa_nil))))))))))), ?_⟩
    walk_at "go"
    refine ⟨Z, p, q, al, rs, gd, bl, rs', gd', rfl, hp, hq, fun hab => ?_, k2⟩
    subst hab
    have hp0 := hp
    have hq0 := hq
    obtain ⟨hpZ, dx, pm, pg, hp1, hp2, hp3⟩ := hp
    obtain ⟨hqZ, dy, qm, qg, hq1, hq2, hq3⟩ := hq
    have hle := hw.le
    have hle' := hw'.le
    walk_at "go"
    refine i_fldR hp1 T.cl T.nM (flds_mo al pm pg) ?_
    walk_at "go"
    refine i_fldR hq1 T.cl T.nM (flds_mo al qm qg) ?_
    walk_at "go"
    refine ⟨Z, pm, qm, rs, rs', al.length, rfl, hp2.rows, hq2.rows, hw, hw', fun k a O M bs H1 hdone s1 ha0 ha1 hO1 hPr1 hM1 => ?_⟩
    have hlt := j_lt hw.b hw'.b k
    have hplen : (jAt al.length rs rs' k).length ≤ rs.length * rs'.length := pairs_len (g_nd (nx := jn al.length rs rs') (s := (0, 0)) k) hlt
    have hnm : rs.length * rs'.length ≤ 3600 := Nat.mul_le_mul hle hle'
    walk_at "go"
    refine ⟨Z, p, al, rs, gd, rfl, hp0.same s1, by omega, fun F H2 s2 hF0 hF2 => ?_⟩
    walk_at "go"
    refine ⟨Z, q, al, rs', gd', rfl, hq0.same (s1.trans s2), by omega, fun G H3 s3 hG0 hG3 => ?_⟩
    walk_at "go"
    have s13 := s2.trans s3
    have hO3 := s13 _ _ hO1
    have hPr3 := hPr1.same s13
    have hF3 := s3 _ _ hF2
    have hpw3 := (s1.trans s13) _ _ hpw
    have hbl := hPr3.length
    refine seq_lc (t := false) hO3 (fun D hD => ⟨fun i H4 => ∃ c, c = bs.length ∧ i ≤ c ∧ H4 = upd H3 D (.lst (((jAt al.length rs rs' k).take i).map fun pr => .bl (jf gd gd' W pr))), ⟨_, rfl, Nat.zero_le _, rfl⟩, fun i H4 _ ⟨_, _, _, e⟩ => by rw [e, upd_ne (ne_of_none hO3 hD)]; exact hO3, fun i v H4 hv hz => ?_, fun H4 hz => ?_⟩)
    · obtain ⟨c, rfl, _, rfl⟩ := hz
      obtain ⟨b, hb, rfl⟩ := at_map hv
      obtain ⟨pr, hpr, hbt⟩ := Paired.at0 hPr3 hb
      obtain ⟨hpa, hpb⟩ := hlt pr (List.mem_of_getElem? hpr)
      have hib := (List.getElem?_eq_some_iff.mp hb).1
      have hbD : b ≠ D := ne_of_none hbt hD
      have fin : ∀ c1 c2 : Nat, c1 = (if pr.1 ∈ gd then 1 else 0) → c2 = (if pr.2 ∈ gd' then 2 else 0) → (∃ acc, (upd H3 D (.lst (((jAt al.length rs rs' k).take i).map fun pr => .bl (jf gd gd' W pr)))) D = some (.lst acc) ∧ acc.length < sizeLine ∧ ∃ c, c = bs.length ∧ i + 1 ≤ c ∧
          upd (upd H3 D (.lst (((jAt al.length rs rs' k).take i).map fun pr => .bl (jf gd gd' W pr)))) D (.lst (acc ++ [.bl (decide (c1 + c2 ∈ W))])) = upd H3 D (.lst (((jAt al.length rs rs' k).take (i + 1)).map fun pr => .bl (jf gd gd' W pr)))) := fun c1 c2 e1 e2 =>
        ⟨_, upd_same, szlt (by rw [List.length_map, List.length_take]; omega), _, rfl, hib, upd_lst (by rw [take_at hpr, List.map_append, e1, e2]; rfl)⟩
      walk_at "go"
      refine i_ixL (v := .bl (decide (pr.1 ∈ gd))) (by rw [upd_ne (ne_of_none hF3 hD)]; exact hF3) (atI_nat (by rw [List.getElem?_map, List.getElem?_range hpa]; rfl)) ?_
      have hW : ∀ n : Nat, rIn K false (.int (n : Int)) (.ref pw) (upd H3 D (.lst (((jAt al.length rs rs' k).take i).map fun pr => .bl (jf gd gd' W pr)))) = rIn K false (.int (n : Int)) (.ref pw) (upd H3 D (.lst (((jAt al.length rs rs' k).take i).map fun pr => .bl (jf gd gd' W pr)))) := fun n => rfl
      have hpwD : (upd H3 D (.lst (((jAt al.length rs rs' k).take i).map fun pr => .bl (jf gd gd' W pr)))) pw = some (sq true (W.map vn)) := by rw [upd_ne (ne_of_none hpw3 hD)]; exact hpw3
      have hGD : (upd H3 D (.lst (((jAt al.length rs rs' k).take i).map fun pr => .bl (jf gd gd' W pr)))) G = some (.lst ((List.range rs'.length).map fun r => .bl (decide (r ∈ gd')))) := by rw [upd_ne (ne_of_none hG3 hD)]; exact hG3
      walk_at "go"
      refine iteD (fun h1 => ?_) (fun h1 => ?_)
      · walk_at "go"
        refine i_ixL (v := .bl (decide (pr.2 ∈ gd'))) hGD (atI_nat (by rw [List.getElem?_map, List.getElem?_range hpb]; rfl)) ?_
        walk_at "go"
        refine iteD (fun h2 => ?_) (fun h2 => ?_)
        · walk_at "go"
          exact i_inI (n := 1 + 2) hpwD (fin 1 2 (by rw [if_pos h1]) (by rw [if_pos h2]))
        · walk_at "go"
          exact i_inI (n := 1 + 0) hpwD (fin 1 0 (by rw [if_pos h1]) (by rw [if_neg h2]))
      · walk_at "go"
        refine i_ixL (v := .bl (decide (pr.2 ∈ gd'))) hGD (atI_nat (by rw [List.getElem?_map, List.getElem?_range hpb]; rfl)) ?_
        walk_at "go"
        refine iteD (fun h2 => ?_) (fun h2 => ?_)
        · walk_at "go"
          exact i_inI (n := 0 + 2) hpwD (fin 0 2 (by rw [if_neg h1]) (by rw [if_pos h2]))
        · walk_at "go"
          exact i_inI (n := 0 + 0) hpwD (fin 0 0 (by rw [if_neg h1]) (by rw [if_neg h2]))
    · obtain ⟨c, rfl, _, rfl⟩ := hz
      walk_at "go"
      have s4 : Same H3 (upd H3 D (.lst (((jAt al.length rs rs' k).take (List.map V.ref bs).length).map fun pr => .bl (jf gd gd' W pr)))) := same_laid hD
      have s04 := (s1.trans s13).trans s4
      refine i_fldR (s04 _ _ hp1) T.cl T.nA (flds_al al pm pg) ?_
      walk_at "go"
      have hgl : (gRows (jn al.length rs rs') (jAt al.length rs rs' k)).length = (jAt al.length rs rs' k).length := gRows_len _ _
      refine ⟨Old H, al, M, D, gRows (jn al.length rs rs') (jAt al.length rs rs' k), fun r => decide (r ∈ jGood al.length rs rs' gd gd' W k), rfl, ?_, ?_, ha, gRows_wf hdone (by have := hdone.len; have h2 : (gAt (jn al.length rs rs') (0, 0) k).length ≤ rs.length * rs'.length := hplen; omega) hw.m3 (fun x _ => jn_len x), fun j i o g ho hi hc hg => ?_⟩
      · exact hM1.same (s13.trans s4)
      · rw [upd_same, hgl]
        unfold jGood
        rw [gMarks, show (List.map V.ref bs).length = (jAt al.length rs rs' k).length by rw [List.length_map, hbl], List.take_length]
      · obtain ⟨q1, q2⟩ := k1 rfl k hdone
        have hL : LeastOf (gRows (jn al.length rs rs') (jAt al.length rs rs' k)) (jGood al.length rs rs' gd gd' W k) (lrows (gRows (jn al.length rs rs') (jAt al.length rs rs' k)) o g) (lgood (fun r => decide (r ∈ jGood al.length rs rs' gd gd' W k)) o g) := ⟨j, i, o, g, ho, hi, hc, hg, rfl, rfl⟩
        exact ⟨fun hl p' H' s' hp' hr => q1 _ _ hL hl p' H' (s04.trans s') (same_free s04 hp') (hr.weak fun b hb => let ⟨u, hu⟩ := hb; ⟨u, s04 _ _ hu⟩), fun hl d H' s' hd hx => q2 _ _ hL hl d H' (s04.trans s') (same_free s04 hd) hx⟩
end
abbrev s_Readerd_andd : Stmt := inClass (top 29) 7
theorem sc_Readerd_andd : FnScope ["self", "other"] ["self", "other"] (fnScope s_Readerd_andd) := ⟨rfl, rfl, rfl, by decide +kernel, rfl, by decide +kernel, by decide +kernel⟩
def sp_op (C : Addr) (r : Er) (W : List Nat) : Sp := fun vs H Q E => ∃ (Z : AS) (p q : Addr) (al : List Nat) (rs : Rws) (gd : List Nat) (bl : List Nat) (rs' : Rws) (gd' : List Nat), vs = [.ref p, .ref q] ∧ Rd C Z H p al rs gd ∧ Rd C Z H q bl rs' gd' ∧ AlOk al ∧ WF al.length rs ∧ WF bl.length rs' ∧
  (al = bl → ∀ k, Done (jn al.length rs rs') (0, 0) k → Outs C r al (gRows (jn al.length rs rs') (jAt al.length rs rs' k)) (jGood al.length rs rs' gd gd' W k) H Q E) ∧
  (al ≠ bl → ∀ d H', Same H H' → H d = none → H' d = some (.xd [("what", .str "alphabet")]) → E (.ref r.Unlike) (some d) H')
theorem Outs.wk {C : Addr} {r : Er} {al : List Nat} {J : Rws} {gd : List Nat} {H H1 : Hp} {Q : VK} {E : XK} (h : Outs C r al J gd H Q E) (s : Same H H1) : Outs C r al J gd H1 Q E :=
  ⟨fun A gA hl h60 p H' s' hp hr => h.1 A gA hl h60 p H' (s.trans s') (same_free s hp) (hr.weak fun b hb => let ⟨u, hu⟩ := hb; ⟨u, s _ _ hu⟩), fun A gA hl h60 d H' s' hd hx => h.2 A gA hl h60 d H' (s.trans s') (same_free s hd) hx⟩
abbrev sp_Readerd_andd (C : Addr) (r : Er) : Sp := sp_op C r [3]
section
variable {P : Program} {w : World} {K : PySem.W.Frag} {mg : Str → Option Value} {base : Heap} {C : Addr} {r : Er}
set_option maxHeartbeats 4000000 in
theorem ok_Readerd_andd {f : Addr} {fd : FuncData} (F : C8.Fun K "__and__" "Reader.__and__" s_Readerd_andd f fd) (T : Txt K mg C r) (c_met : CalX P w K mg base 6 "met" (sp_met C r)) : FnOk P w K mg base (L2.CX P w) 7 f fd ["self", "other"] (sp_Readerd_andd C r) := by
  refine fnX F sc_Readerd_andd (fun vs H Q E h => ?_) (fun cdv A outer s H vs Q E hr h => ?_)
  · obtain ⟨_, _, _, _, _, _, _, _, _, rfl, _⟩ := h
    rfl
  · obtain ⟨Z, p, q, al, rs, gd, bl, rs', gd', rfl, hp, hq, ha, hw, hw', k1, k2⟩ := h
    refine ⟨_, (pss_one (ps_ret (pe_cX c_met hr (by decide) (takes_of rfl rfl rfl rfl) rfl (pa_cons (pv 0) (pa_cons (pv 1) (pa_cons (pe_tup (pa_cons pe_int pa_nil)) pa_nil)))))), ?_⟩
    walk_at "go"
    refine ⟨sz1, fun t ht => ?_⟩
    walk_at "go"
    have s1 : Same H (upd H t (.tup [.int 3])) := same_laid ht
    refine ⟨Z, p, q, t, al, rs, gd, bl, rs', gd', [3], rfl, hp.same s1, hq.same s1, upd_same, ha, hw, hw', fun e k hk => (k1 e k hk).wk s1, fun e d H' s' hd hx => k2 e d H' (s1.trans s') (same_free s1 hd) hx⟩
end
abbrev s_Readerd_ord : Stmt := inClass (top 29) 8
theorem sc_Readerd_ord : FnScope ["self", "other"] ["self", "other"] (fnScope s_Readerd_ord) := ⟨rfl, rfl, rfl, by decide +kernel, rfl, by decide +kernel, by decide +kernel⟩
abbrev sp_Readerd_ord (C : Addr) (r : Er) : Sp := sp_op C r [1, 2, 3]
section
variable {P : Program} {w : World} {K : PySem.W.Frag} {mg : Str → Option Value} {base : Heap} {C : Addr} {r : Er}
set_option maxHeartbeats 4000000 in
theorem ok_Readerd_ord {f : Addr} {fd : FuncData} (F : C8.Fun K "__or__" "Reader.__or__" s_Readerd_ord f fd) (T : Txt K mg C r) (c_met : CalX P w K mg base 6 "met" (sp_met C r)) : FnOk P w K mg base (L2.CX P w) 7 f fd ["self", "other"] (sp_Readerd_ord C r) := by
  refine fnX F sc_Readerd_ord (fun vs H Q E h => ?_) (fun cdv A outer s H vs Q E hr h => ?_)
  · obtain ⟨_, _, _, _, _, _, _, _, _, rfl, _⟩ := h
    rfl
  · obtain ⟨Z, p, q, al, rs, gd, bl, rs', gd', rfl, hp, hq, ha, hw, hw', k1, k2⟩ := h
    refine ⟨_, (pss_one (ps_ret (pe_cX c_met hr (by decide) (takes_of rfl rfl rfl rfl) rfl (pa_cons (pv 0) (pa_cons (pv 1) (pa_cons (pe_tup (pa_cons pe_int (pa_cons pe_int (pa_cons pe_int pa_nil)))) pa_nil)))))), ?_⟩
    walk_at "go"
    refine ⟨sz3, fun t ht => ?_⟩
    walk_at "go"
    have s1 : Same H (upd H t (.tup [.int 1, .int 2, .int 3])) := same_laid ht
    refine ⟨Z, p, q, t, al, rs, gd, bl, rs', gd', [1, 2, 3], rfl, hp.same s1, hq.same s1, upd_same, ha, hw, hw', fun e k hk => (k1 e k hk).wk s1, fun e d H' s' hd hx => k2 e d H' (s1.trans s') (same_free s1 hd) hx⟩
end
abbrev s_Readerd_subd : Stmt := inClass (top 29) 9
theorem sc_Readerd_subd : FnScope ["self", "other"] ["self", "other"] (fnScope s_Readerd_subd) := ⟨rfl, rfl, rfl, by decide +kernel, rfl, by decide +kernel, by decide +kernel⟩
abbrev sp_Readerd_subd (C : Addr) (r : Er) : Sp := sp_op C r [1]
section
variable {P : Program} {w : World} {K : PySem.W.Frag} {mg : Str → Option Value} {base : Heap} {C : Addr} {r : Er}
set_option maxHeartbeats 4000000 in
theorem ok_Readerd_subd {f : Addr} {fd : FuncData} (F : C8.Fun K "__sub__" "Reader.__sub__" s_Readerd_subd f fd) (T : Txt K mg C r) (c_met : CalX P w K mg base 6 "met" (sp_met C r)) : FnOk P w K mg base (L2.CX P w) 7 f fd ["self", "other"] (sp_Readerd_subd C r) := by
  refine fnX F sc_Readerd_subd (fun vs H Q E h => ?_) (fun cdv A outer s H vs Q E hr h => ?_)
  · obtain ⟨_, _, _, _, _, _, _, _, _, rfl, _⟩ := h
    rfl
  · obtain ⟨Z, p, q, al, rs, gd, bl, rs', gd', rfl, hp, hq, ha, hw, hw', k1, k2⟩ := h
    refine ⟨_, (pss_one (ps_ret (pe_cX c_met hr (by decide) (takes_of rfl rfl rfl rfl) rfl (pa_cons (pv 0) (pa_cons (pv 1) (pa_cons (pe_tup (pa_cons pe_int pa_nil)) pa_nil)))))), ?_⟩
    walk_at "go"
    refine ⟨sz1, fun t ht => ?_⟩
    walk_at "go"
    have s1 : Same H (upd H t (.tup [.int 1])) := same_laid ht
    refine ⟨Z, p, q, t, al, rs, gd, bl, rs', gd', [1], rfl, hp.same s1, hq.same s1, upd_same, ha, hw, hw', fun e k hk => (k1 e k hk).wk s1, fun e d H' s' hd hx => k2 e d H' (s1.trans s') (same_free s1 hd) hx⟩
end
abbrev s_Readerd_invertd : Stmt := inClass (top 29) 10
theorem sc_Readerd_invertd : FnScope ["self", "room"] ["self"] (fnScope s_Readerd_invertd) := ⟨rfl, rfl, rfl, by decide +kernel, rfl, by decide +kernel, by decide +kernel⟩
def nGood (rs : Rws) (gd : List Nat) : List Nat := (List.range rs.length).filter fun r => !decide (r ∈ gd)
def sp_Readerd_invertd (C : Addr) (r : Er) : Sp := fun vs H Q E => ∃ (Z : AS) (p : Addr) (al : List Nat) (rs : Rws) (gd : List Nat), vs = [.ref p] ∧ Rd C Z H p al rs gd ∧ AlOk al ∧ WF al.length rs ∧ Outs C r al rs (nGood rs gd) H Q E
section
variable {P : Program} {w : World} {K : PySem.W.Frag} {mg : Str → Option Value} {base : Heap} {C : Addr} {r : Er}
set_option maxHeartbeats 4000000 in
theorem ok_Readerd_invertd {f : Addr} {fd : FuncData} (F : C8.Fun K "__invert__" "Reader.__invert__" s_Readerd_invertd f fd) (T : Txt K mg C r) (c_reader_of_table : CalX P w K mg base 5 "reader_of_table" (sp_reader_of_table C r)) : FnOk P w K mg base (L2.CX P w) 6 f fd ["self"] (sp_Readerd_invertd C r) := by
  refine fnX F sc_Readerd_invertd (fun vs H Q E h => ?_) (fun cdv A outer s H vs Q E hr h => ?_)
  · obtain ⟨_, _, _, _, _, rfl, _⟩ := h
    rfl
  · obtain ⟨Z, p, al, rs, gd, rfl, hp, ha, hw, k⟩ := h
    refine ⟨_, (pss_one (ps_ret (pe_cX c_reader_of_table hr (by decide) (takes_of rfl rfl rfl rfl) rfl (pa_cons (fldK K rfl (pv 0) rfl) (pa_cons (fldK K rfl (pv 0) rfl) (pa_cons (pe_lc (own := [("room", 1)]) rfl sc_Readerd_invertd.nd (pi_range1 (by rfl) T.b_range (pa_cons (pe_callB (lenK K rfl) (by rfl) T.b_len (by decide +kernel) (pa_cons (fldK K rfl (pv 0) rfl) pa_nil)) pa_nil)) (blkOk_by (by kernel_rfl)) (fun _ _ _ _ _ => (pg_name (i := 1) sc_Readerd_invertd.nd rfl (by first | exact Or.inl rfl | exact Or.inr rfl))) (fun _ _ _ _ _ => pts_nil) (fun _ _ _ _ _ => (pe_cmpR (notInK K rfl) (pv 1) (fldK K rfl (pv 0) rfl) rfl))) pa_nil)))))), ?_⟩
    walk_at "go"
    obtain ⟨hpZ, dx, pm, pg, hp1, hp2, hp3⟩ := hp
    have hle := hw.le
    obtain ⟨vs, hv, hvl⟩ := hp2.len
    refine i_fldR hp1 T.cl T.nA (flds_al al pm pg) ?_
    walk_at "go"
    refine i_fldR hp1 T.cl T.nM (flds_mo al pm pg) ?_
    walk_at "go"
    refine i_fldR hp1 T.cl T.nM (flds_mo al pm pg) ?_
    walk_at "go"
    refine ⟨by omega, by omega, fun D hD => ?_⟩
    rw [Int.toNat_natCast, hvl]
    refine rng0_lc (fun i H' => i ≤ rs.length ∧ H' = upd H D (.lst ((List.range i).map fun r => .bl (!decide (r ∈ gd))))) ⟨Nat.zero_le _, rfl⟩ (fun i H' hi hz => ?_) (fun H' hz => ?_)
    · obtain ⟨_, rfl⟩ := hz
      have hpD : p ≠ D := ne_of_none hp1 hD
      walk_at "go"
      refine i_fldR (by rw [upd_ne hpD]; exact hp1) T.cl T.nG (flds_go al pm pg) ?_
      refine i_notInI (t := true) (by rw [upd_ne (ne_of_none hp3.2 hD)]; exact hp3.2) ?_
      exact ⟨_, upd_same, szlt (by rw [List.length_map, List.length_range]; omega), hi, upd_lst (by rw [List.range_succ, List.map_append]; rfl)⟩
    · obtain ⟨_, rfl⟩ := hz
      walk_at "go"
      have s1 : Same H (upd H D (.lst ((List.range rs.length).map fun r => .bl (!decide (r ∈ gd))))) := same_laid hD
      refine ⟨Z, al, pm, D, rs, fun r => decide (r ∈ nGood rs gd), rfl, (hp2.same s1).rows, ?_, ha, hw.b, fun j i o g ho hi hc hg => ?_⟩
      · rw [upd_same]
        refine congrArg some (congrArg HO.lst (List.map_congr_left fun r hr => ?_))
        unfold nGood
        congr 1
        by_cases e : r ∈ gd
        · rw [decide_eq_true e]
          exact (decide_eq_false fun z => by
            have := (List.mem_filter.mp z).2
            rw [decide_eq_true e] at this
            cases this).symm
        · rw [decide_eq_false e]
          exact (decide_eq_true (List.mem_filter.mpr ⟨hr, by rw [decide_eq_false e] <;> rfl⟩)).symm
      · have hL : LeastOf rs (nGood rs gd) (lrows rs o g) (lgood (fun r => decide (r ∈ nGood rs gd)) o g) := ⟨j, i, o, g, ho, hi, hc, hg, rfl, rfl⟩
        have k' : Outs C r al rs (nGood rs gd) _ Q E := Outs.wk k s1
        exact ⟨fun hl p' H' s' hp' hr => k'.1 _ _ hL hl p' H' s' hp' hr, fun hl d H' s' hd hx => k'.2 _ _ hL hl d H' s' hd hx⟩
end
abbrev s_Reader_full : Stmt := inClass (top 29) 1
theorem sc_Reader_full : FnScope ["alphabet", "letter"] ["alphabet"] (fnScope s_Reader_full) := ⟨rfl, rfl, rfl, by decide +kernel, rfl, by decide +kernel, by decide +kernel⟩
def row0 (m : Nat) : Rws := [List.replicate m 0]
def sp_Reader_full (C : Addr) : Sp := fun vs H Q _ => ∃ (al : List Nat), vs = [.str (SX.S al)] ∧ AlOk al ∧ ∀ p H', Same H H' → H p = none → Rd C (Old H) H' p al (row0 al.length) [0] → Q (.ref p) H'
theorem row0_wf {al : List Nat} (ha : AlOk al) : WF al.length (row0 al.length) := .of (by show 0 < 1; decide) (by show 1 ≤ 60; decide) ha.le (fun r hr => by rw [List.mem_singleton.mp hr, List.length_replicate]) (fun r hr t ht => by
  rw [List.mem_singleton.mp hr] at ht
  rw [(List.mem_replicate.mp ht).2]
  show 0 < 1
  decide)
section
variable {P : Program} {w : World} {K : PySem.W.Frag} {mg : Str → Option Value} {base : Heap} {C : Addr} {r : Er}
set_option maxHeartbeats 4000000 in
theorem ok_Reader_full {f : Addr} {fd : FuncData} (F : C8.Fun K "full" "Reader.full" s_Reader_full f fd) (T : Txt K mg C r) (c_check_alphabet : Cal P w K mg base 2 "check_alphabet" sp_check_alphabet []) (m_Reader : Mak P w K mg base 3 "Reader" C (sp_Readerd_initd C) []) : FnOk P w K mg base C8.CX0 5 f fd ["alphabet"] (sp_Reader_full C) := by
  refine fn0 F sc_Reader_full (fun vs H Q E h => ?_) (fun cdv A outer s H vs Q E hr h => ?_)
  · obtain ⟨_, rfl, _⟩ := h
    rfl
  · obtain ⟨al, rfl, ha, k⟩ := h
    refine ⟨_, (pss_cons (ps_expr (pe_c c_check_alphabet hr (by decide) rfl (pa_cons (pv 0) pa_nil)))
        (pss_one (ps_ret (pe_mk m_Reader hr (by decide) rfl (pa_cons (pv 0) (pa_cons (pe_tup (pa_cons (pe_callTy (tupleK K rfl) (by rfl) T.b_tuple (by decide +kernel) (pa_cons (pe_lc (own := [("letter", 1)]) rfl sc_Reader_full.nd (pi_str (pv 0)) (blkOk_by (by kernel_rfl)) (fun _ _ _ _ _ => (pg_name (i := 1) sc_Reader_full.nd rfl (by first | exact Or.inl rfl | exact Or.inr rfl))) (fun _ _ _ _ _ => pts_nil) (fun _ _ _ _ _ => pe_int)) pa_nil)) pa_nil)) (pa_cons (pe_tup (pa_cons pe_int pa_nil)) pa_nil))))))), ?_⟩
    walk_at "go"
    have h1 := ha.pos
    have h3 := ha.le
    have hl : (SX.S al).length = al.length := SX.S_len al
    have hcs : (SX.S al).cps.size = al.length := hl
    refine ⟨al, rfl, ha, fun H1 s1 => ?_⟩
    walk_at "go"
    intro D hD
    refine str_lc (fun i H' => i ≤ al.length ∧ H' = upd H1 D (.lst (List.replicate i (.int 0)))) ⟨Nat.zero_le _, rfl⟩ (fun i c H' hc z => ?_) (fun H' z => ?_)
    · obtain ⟨_, rfl⟩ := z
      have hi' : i < al.length := by
        have z : al.toArray[i]? = some c := hc
        rw [List.getElem?_toArray] at z
        exact (List.getElem?_eq_some_iff.mp z).1
      walk_at "go"
      exact ⟨_, upd_same, szlt (by rw [List.length_replicate]; omega), hi', upd_lst (rep_snoc i (V.int 0))⟩
    · obtain ⟨_, rfl⟩ := z
      rw [hcs]
      walk_at "go"
      refine i_tupleOfL upd_same (fun TT hTT => ?_)
      walk_at "go"
      refine ⟨sz1, fun M hM => ?_⟩
      walk_at "go"
      refine ⟨sz1, fun G hG => ?_⟩
      walk_at "go"
      intro x dx hx hdx hne
      have s2 : Same H1 (upd (upd H1 D (.lst (List.replicate al.length (.int 0)))) TT (.tup (List.replicate al.length (.int 0)))) := (same_laid hD).trans (same_laid hTT)
      have s3 := s2.trans (same_laid (o := .tup [.ref TT]) hM)
      have s4 := s3.trans (same_laid (o := .tup [.int 0]) hG)
      have hT4 : (upd (upd (upd (upd H1 D (.lst (List.replicate al.length (.int 0)))) TT (.tup (List.replicate al.length (.int 0)))) M (.tup [.ref TT])) G (.tup [.int 0])) TT = some (.tup (List.replicate al.length (.int 0))) := by
        rw [upd_ne (ne_of_none (by rw [upd_ne (ne_of_none upd_same hM), upd_same]) hG), upd_ne (ne_of_none upd_same hM), upd_same]
      have hM4 : (upd (upd (upd (upd H1 D (.lst (List.replicate al.length (.int 0)))) TT (.tup (List.replicate al.length (.int 0)))) M (.tup [.ref TT])) G (.tup [.int 0])) M = some (.tup [.ref TT]) := by
        rw [upd_ne (ne_of_none upd_same hG), upd_same]
      have hG4 : (upd (upd (upd (upd H1 D (.lst (List.replicate al.length (.int 0)))) TT (.tup (List.replicate al.length (.int 0)))) M (.tup [.ref TT])) G (.tup [.int 0])) G = some (.tup [.int 0]) := upd_same
      have hTT0 : H1 TT = none := same_free (same_laid hD) hTT
      have hM0 : H1 M = none := same_free s2 hM
      have hG0 : H1 G = none := same_free s3 hG
      generalize upd (upd (upd (upd H1 D (.lst (List.replicate al.length (.int 0)))) TT (.tup (List.replicate al.length (.int 0)))) M (.tup [.ref TT])) G (.tup [.int 0]) = H4 at *
      have s5 : Same H4 (upd (upd H4 dx (.own x)) x (.ins C dx [])) := (same_laid hdx).trans (same_laid (by rw [upd_ne hne.symm]; exact hx))
      have s15 := s4.trans s5
      have s05 := s1.trans s15
      have e0 : (List.replicate al.length (V.int 0)) = (List.replicate al.length 0).map vn := by rw [List.map_replicate]; rfl
      refine ⟨Old H1, x, dx, al, M, row0 al.length, G, [0], rfl, fun q hq => let ⟨u, hu⟩ := hq; ⟨u, s15 _ _ hu⟩, upd_same, ha, ⟨Old.none hM0, true, [TT], s5 _ _ hM4, .cons ⟨Old.none hTT0, true, by rw [s5 _ _ hT4, e0]; rfl⟩ .nil⟩, ⟨Old.none hG0, true, s5 _ _ hG4⟩, row0_wf ha, ⟨by simp, fun z hz => by rw [List.mem_singleton.mp hz]; show 0 < 1; decide⟩, fun H' qm qg kk e1 e2 e3 => ⟨rfl, ?_⟩⟩
      have hx0 : H x = none := same_free (s1.trans s4) hx
      exact k x H' ((s1.trans s4).trans (made_same hx hdx kk)) hx0 ⟨Old.none hx0, dx, qm, qg, e1, e2.weak fun b hb => let ⟨u, hu⟩ := hb; ⟨u, s1 _ _ hu⟩, e3.weak fun b hb => let ⟨u, hu⟩ := hb; ⟨u, s1 _ _ hu⟩⟩
end
abbrev s_Reader_bare : Stmt := inClass (top 29) 2
theorem sc_Reader_bare : FnScope ["alphabet", "letter"] ["alphabet"] (fnScope s_Reader_bare) := ⟨rfl, rfl, rfl, by decide +kernel, rfl, by decide +kernel, by decide +kernel⟩
def sp_Reader_bare (C : Addr) : Sp := fun vs H Q _ => ∃ (al : List Nat), vs = [.str (SX.S al)] ∧ AlOk al ∧ ∀ p H', Same H H' → H p = none → Rd C (Old H) H' p al (row0 al.length) [] → Q (.ref p) H'
section
variable {P : Program} {w : World} {K : PySem.W.Frag} {mg : Str → Option Value} {base : Heap} {C : Addr} {r : Er}
set_option maxHeartbeats 4000000 in
theorem ok_Reader_bare {f : Addr} {fd : FuncData} (F : C8.Fun K "bare" "Reader.bare" s_Reader_bare f fd) (T : Txt K mg C r) (c_check_alphabet : Cal P w K mg base 2 "check_alphabet" sp_check_alphabet []) (m_Reader : Mak P w K mg base 3 "Reader" C (sp_Readerd_initd C) []) : FnOk P w K mg base C8.CX0 5 f fd ["alphabet"] (sp_Reader_bare C) := by
  refine fn0 F sc_Reader_bare (fun vs H Q E h => ?_) (fun cdv A outer s H vs Q E hr h => ?_)
  · obtain ⟨_, rfl, _⟩ := h
    rfl
  · obtain ⟨al, rfl, ha, k⟩ := h
    refine ⟨_, (pss_cons (ps_expr (pe_c c_check_alphabet hr (by decide) rfl (pa_cons (pv 0) pa_nil)))
        (pss_one (ps_ret (pe_mk m_Reader hr (by decide) rfl (pa_cons (pv 0) (pa_cons (pe_tup (pa_cons (pe_callTy (tupleK K rfl) (by rfl) T.b_tuple (by decide +kernel) (pa_cons (pe_lc (own := [("letter", 1)]) rfl sc_Reader_bare.nd (pi_str (pv 0)) (blkOk_by (by kernel_rfl)) (fun _ _ _ _ _ => (pg_name (i := 1) sc_Reader_bare.nd rfl (by first | exact Or.inl rfl | exact Or.inr rfl))) (fun _ _ _ _ _ => pts_nil) (fun _ _ _ _ _ => pe_int)) pa_nil)) pa_nil)) (pa_cons (pe_tup pa_nil) pa_nil))))))), ?_⟩
    walk_at "go"
    have h1 := ha.pos
    have h3 := ha.le
    have hl : (SX.S al).length = al.length := SX.S_len al
    have hcs : (SX.S al).cps.size = al.length := hl
    refine ⟨al, rfl, ha, fun H1 s1 => ?_⟩
    walk_at "go"
    intro D hD
    refine str_lc (fun i H' => i ≤ al.length ∧ H' = upd H1 D (.lst (List.replicate i (.int 0)))) ⟨Nat.zero_le _, rfl⟩ (fun i c H' hc z => ?_) (fun H' z => ?_)
    · obtain ⟨_, rfl⟩ := z
      have hi' : i < al.length := by
        have z : al.toArray[i]? = some c := hc
        rw [List.getElem?_toArray] at z
        exact (List.getElem?_eq_some_iff.mp z).1
      walk_at "go"
      exact ⟨_, upd_same, szlt (by rw [List.length_replicate]; omega), hi', upd_lst (rep_snoc i (V.int 0))⟩
    · obtain ⟨_, rfl⟩ := z
      rw [hcs]
      walk_at "go"
      refine i_tupleOfL upd_same (fun TT hTT => ?_)
      walk_at "go"
      refine ⟨sz1, fun M hM => ?_⟩
      walk_at "go"
      refine ⟨szl (by show 0 ≤ 16777216; decide), fun G hG => ?_⟩
      walk_at "go"
      intro x dx hx hdx hne
      have s2 : Same H1 (upd (upd H1 D (.lst (List.replicate al.length (.int 0)))) TT (.tup (List.replicate al.length (.int 0)))) := (same_laid hD).trans (same_laid hTT)
      have s3 := s2.trans (same_laid (o := .tup [.ref TT]) hM)
      have s4 := s3.trans (same_laid (o := .tup []) hG)
      have hT4 : (upd (upd (upd (upd H1 D (.lst (List.replicate al.length (.int 0)))) TT (.tup (List.replicate al.length (.int 0)))) M (.tup [.ref TT])) G (.tup [])) TT = some (.tup (List.replicate al.length (.int 0))) := by
        rw [upd_ne (ne_of_none (by rw [upd_ne (ne_of_none upd_same hM), upd_same]) hG), upd_ne (ne_of_none upd_same hM), upd_same]
      have hM4 : (upd (upd (upd (upd H1 D (.lst (List.replicate al.length (.int 0)))) TT (.tup (List.replicate al.length (.int 0)))) M (.tup [.ref TT])) G (.tup [])) M = some (.tup [.ref TT]) := by
        rw [upd_ne (ne_of_none upd_same hG), upd_same]
      have hG4 : (upd (upd (upd (upd H1 D (.lst (List.replicate al.length (.int 0)))) TT (.tup (List.replicate al.length (.int 0)))) M (.tup [.ref TT])) G (.tup [])) G = some (.tup []) := upd_same
      have hTT0 : H1 TT = none := same_free (same_laid hD) hTT
      have hM0 : H1 M = none := same_free s2 hM
      have hG0 : H1 G = none := same_free s3 hG
      generalize upd (upd (upd (upd H1 D (.lst (List.replicate al.length (.int 0)))) TT (.tup (List.replicate al.length (.int 0)))) M (.tup [.ref TT])) G (.tup []) = H4 at *
      have s5 : Same H4 (upd (upd H4 dx (.own x)) x (.ins C dx [])) := (same_laid hdx).trans (same_laid (by rw [upd_ne hne.symm]; exact hx))
      have s15 := s4.trans s5
      have s05 := s1.trans s15
      have e0 : (List.replicate al.length (V.int 0)) = (List.replicate al.length 0).map vn := by rw [List.map_replicate]; rfl
      refine ⟨Old H1, x, dx, al, M, row0 al.length, G, [], rfl, fun q hq => let ⟨u, hu⟩ := hq; ⟨u, s15 _ _ hu⟩, upd_same, ha, ⟨Old.none hM0, true, [TT], s5 _ _ hM4, .cons ⟨Old.none hTT0, true, by rw [s5 _ _ hT4, e0]; rfl⟩ .nil⟩, ⟨Old.none hG0, true, s5 _ _ hG4⟩, row0_wf ha, ⟨List.Pairwise.nil, fun z hz => by cases hz⟩, fun H' qm qg kk e1 e2 e3 => ⟨rfl, ?_⟩⟩
      have hx0 : H x = none := same_free (s1.trans s4) hx
      exact k x H' ((s1.trans s4).trans (made_same hx hdx kk)) hx0 ⟨Old.none hx0, dx, qm, qg, e1, e2.weak fun b hb => let ⟨u, hu⟩ := hb; ⟨u, s1 _ _ hu⟩, e3.weak fun b hb => let ⟨u, hu⟩ := hb; ⟨u, s1 _ _ hu⟩⟩
end
abbrev s_Reader_room : Stmt := inClass (top 29) 3
theorem sc_Reader_room : FnScope ["self", "text"] ["self", "text"] (fnScope s_Reader_room) := ⟨rfl, rfl, rfl, by decide +kernel, rfl, by decide +kernel, by decide +kernel⟩
def sp_Reader_room (C : Addr) : Sp := fun vs H Q _ => ∃ (Z : AS) (p : Addr) (al : List Nat) (rs : Rws) (gd : List Nat) (z w : List Nat), vs = [.ref p, .str (SX.S z)] ∧ Rd C Z H p al rs gd ∧ AlOk al ∧ WF al.length rs ∧ Word al w z ∧ z.length ≤ 40 ∧ ∀ H', Same H H' → Q (vn (run rs 0 w)) H'
section
variable {P : Program} {w : World} {K : PySem.W.Frag} {mg : Str → Option Value} {base : Heap} {C : Addr} {r : Er}
set_option maxHeartbeats 4000000 in
theorem ok_Reader_room {f : Addr} {fd : FuncData} (F : C8.Fun K "room" "Reader.room" s_Reader_room f fd) (T : Txt K mg C r) (c_check_text : Cal P w K mg base 2 "check_text" sp_check_text []) (c_room_of : Cal P w K mg base 1 "room_of" (sp_room_of C) []) : FnOk P w K mg base C8.CX0 3 f fd ["self", "text"] (sp_Reader_room C) := by
  refine fn0 F sc_Reader_room (fun vs H Q E h => ?_) (fun cdv A outer s H vs Q E hr h => ?_)
  · obtain ⟨_, _, _, _, _, _, _, rfl, _⟩ := h
    rfl
  · obtain ⟨Z, p, al, rs, gd, z, w, rfl, hp, ha, hw, hz, hl, k⟩ := h
    refine ⟨_, (pss_cons (ps_expr (pe_c c_check_text hr (by decide) rfl (pa_cons (fldK K rfl (pv 0) rfl) (pa_cons (pv 1) pa_nil))))
        (pss_one (ps_ret (pe_c c_room_of hr (by decide) rfl (pa_cons (pv 0) (pa_cons (pv 1) pa_nil)))))), ?_⟩
    walk_at "go"
    have hp0 := hp
    obtain ⟨hpZ, dx, pm, pg, hp1, hp2, hp3⟩ := hp
    refine i_fldR hp1 T.cl T.nA (flds_al al pm pg) ?_
    walk_at "go"
    refine ⟨al, z, rfl, hl, fun c hc => ?_, fun H1 s1 => ?_⟩
    · obtain ⟨i, hi⟩ := List.mem_iff_getElem?.mp hc
      obtain ⟨a, _, _, h3⟩ := hz.at hi
      exact List.mem_of_getElem? h3
    walk_at "go"
    refine ⟨Z, p, al, rs, gd, z, w, rfl, hp0.same s1, ha, hw, hz, by omega, ?_⟩
    walk_at "go"
    exact k H1 s1
end
abbrev s_law_source : Stmt := top 36
theorem sc_law_source : FnScope ["script", "place", "cell", "seed", "one", "number"] ["script", "place"] (fnScope s_law_source) := ⟨rfl, rfl, rfl, by decide +kernel, rfl, by decide +kernel, by decide +kernel⟩
def sp_law_source (K : PySem.W.Frag) : Sp := fun vs H Q _ => ∃ (a : Addr) (ns : List Int) (k : Nat), vs = [.ref a, .int (k : Int)] ∧ SqL K H a (ns.map V.int) ∧ ns.length ≤ 63 ∧ k ≤ 2 ∧ (∀ n ∈ ns, n.natAbs < 2 ^ 1048576) ∧ ∀ p x y z H', Same H H' → H p = none → H' p = some (.lst [.int x, .int y, .int z]) → Q (.ref p) H'
section
variable {P : Program} {w : World} {K : PySem.W.Frag} {mg : Str → Option Value} {base : Heap} {C : Addr} {r : Er}
set_option maxHeartbeats 4000000 in
theorem ok_law_source {f : Addr} {fd : FuncData} (F : Def K mg "_law_source" s_law_source f fd) (T : Txt K mg C r) (b : Binds K fd ["script", "place"] []) : Cal P w K mg base 1 "_law_source" (sp_law_source K) [] := by
  refine cal0 F b .nil sc_law_source (fun vs H Q E h => ?_) (fun cdv A outer s H vs Q E hr h => ?_)
  · obtain ⟨_, _, _, rfl, _⟩ := h
    rfl
  · obtain ⟨a, ns, k, rfl, ha, hl, hk2, hb, kk⟩ := h
    refine ⟨_, (C8.pss_cut (ps_set (i := 2) sc_law_source.nd rfl (by first | exact Or.inl rfl | exact Or.inr rfl) (pe_ifExp (pt_cmpR op_lt (pv 1) (pe_callB (lenK K rfl) (by rfl) T.b_len (by decide +kernel) (pa_cons (pv 0) pa_nil)) (nomark _)) (pe_ix (ixK K rfl) (pv 0) (pv 1) (fun _ _ => rfl)) (pe_op op_add (pe_op op_mul pe_int (pv 1)) pe_int)))
        (pss_cons (ps_set (i := 3) sc_law_source.nd rfl (by first | exact Or.inl rfl | exact Or.inr rfl) (pe_op op_add (pe_op op_mul pe_int (pv 1)) pe_int))
        (pss_cons (ps_for PassesOwn.never rfl (seqK K rfl (pe_slice (slLK K rfl) (pv 0) po_none (po_some pe_int))) (pg_name (i := 4) sc_law_source.nd rfl (by first | exact Or.inl rfl | exact Or.inr rfl))
        (pss_one (ps_set (i := 3) sc_law_source.nd rfl (by first | exact Or.inl rfl | exact Or.inr rfl) (pe_op op_mod (pe_callTy int1 (by rfl) T.b_int (by decide +kernel) (pa_cons (pe_op op_add (pe_op op_mul (pv 3) pe_int) (pe_op op_mod (pe_callTy int1 (by rfl) T.b_int (by decide +kernel) (pa_cons (pv 4) pa_nil)) pe_int)) pa_nil)) pe_int))))
        (pss_cons (ps_set (i := 3) sc_law_source.nd rfl (by first | exact Or.inl rfl | exact Or.inr rfl) (pe_op op_mod (pe_callTy int1 (by rfl) T.b_int (by decide +kernel) (pa_cons (pe_op op_add (pe_op op_mul (pv 3) pe_int) (pe_op op_mod (pe_callTy int1 (by rfl) T.b_int (by decide +kernel) (pa_cons (pv 2) pa_nil)) pe_int)) pa_nil)) pe_int))
        (pss_cons (ps_set (i := 5) sc_law_source.nd rfl (by first | exact Or.inl rfl | exact Or.inr rfl) (pe_callB call_abs (by rfl) T.b_abs (by decide +kernel) (pa_cons (pv 2) pa_nil)))
        (pss_cons (ps_if (pt_cmpR op_lt (pv 5) (pe_op op_pow pe_int pe_int) (nomark _)) (pss_one (ps_ret (pe_lst (pa_cons pe_int (pa_cons (pv 3) (pa_cons pe_int pa_nil)))))) pss_nil)
        (pss_cons (ps_if (pt_cmpR op_gt (pe_op op_shr (pv 5) pe_int) pe_int (nomark _)) (pss_one (ps_set (i := 5) sc_law_source.nd rfl (by first | exact Or.inl rfl | exact Or.inr rfl) (pe_op op_sub (pv 5) (pe_op op_shlW (pe_op op_shr (pv 5) pe_int) pe_int)))) pss_nil)
        (pss_one (ps_ret (pe_lst (pa_cons (pv 5) (pa_cons (pv 3) (pa_cons pe_int pa_nil))))))))))))), ?_⟩
    walk_at "go"
    refine i_cut (fun σ H' => ∃ c : Int, c.natAbs < 2 ^ 1048576 ∧ H' = H ∧ σ = [some (.ref a), some (.int (k : Int)), some (.int c), none, none, none]) ?_ (fun σ H' hq => ?_)
    · walk_at "go"
      refine i_lenLs ha ?_
      walk_at "go"
      rw [List.length_map]
      refine iteD (fun h => ?_) (fun h => ?_)
      · walk_at "go"
        have hk : k < ns.length := by omega
        refine i_ixLs ha (v := .int ns[k]) (atI_nat (by rw [List.getElem?_map, List.getElem?_eq_getElem hk]; rfl)) ?_
        walk_at "go"
        exact ⟨_, hb _ (List.getElem_mem hk), rfl, rfl⟩
      · walk_at "go"
        refine ⟨_, ?_, rfl, rfl⟩
        refine Nat.lt_of_lt_of_le (m := 2 ^ 4) (by omega) (Nat.pow_le_pow_right (by decide) (by decide))
    · obtain ⟨c, hc, rfl, rfl⟩ := hq
      walk_at "go"
      refine ⟨a, _, rfl, ha, fun p hp => ?_⟩
      rw [cutV_to3, ← List.map_take]
      refine seq_for (t := false) upd_same (fun i σ H3 => ∃ x sd, σ = [some (.ref a), some (.int (k : Int)), some (.int c), some (.int sd), x, none] ∧ 0 ≤ sd ∧ sd < 2147483629 ∧ H3 = upd H' p (.lst ((ns.take 3).map V.int))) ⟨none, _, rfl, by omega, by omega, rfl⟩ (fun i σ H3 _ ⟨_, _, _, _, _, e⟩ => by rw [e]; exact upd_same) (fun i v σ H3 hv hq => ?_) (fun σ H3 hq => ?_)
      · obtain ⟨x, sd, rfl, g0, g1, rfl⟩ := hq
        obtain ⟨u, hu, rfl⟩ := at_map hv
        walk_at "go"
        exact ⟨_, _, rfl, Int.emod_nonneg _ (by omega), Int.emod_lt_of_pos _ (by omega), rfl⟩
      · obtain ⟨x, sd, rfl, g0, g1, rfl⟩ := hq
        walk_at "go"
        have hn0 : 0 ≤ (if c < 0 then -c else c) := by split <;> omega
        have hn1 : (if c < 0 then -c else c).natAbs < 2 ^ 1048576 := by
          split
          · rw [Int.natAbs_neg]; exact hc
          · exact hc
        generalize (if c < 0 then -c else c) = n at hn0 hn1
        have fin : ∀ (u v y : Int) (q : Addr), (upd H' p (.lst ((ns.take 3).map V.int))) q = none → Q (.ref q) (upd (upd H' p (.lst ((ns.take 3).map V.int))) q (.lst [.int u, .int v, .int y])) := fun u v y q hq =>
          kk q u v y _ ((same_laid hp).trans (same_laid hq)) (same_free (same_laid hp) hq) upd_same
        refine iteD (fun h => ?_) (fun h => ?_)
        · walk_at "go"
          exact ⟨sz3, fun q hq => fin _ _ _ q hq⟩
        · walk_at "go"
          refine iteD (fun h2 => ?_) (fun h2 => ?_)
          · walk_at "go"
            have hd : (n / 2 ^ (3000 : Int).toNat).natAbs < 2 ^ 1048576 := by
              refine Nat.lt_of_le_of_lt ?_ hn1
              have h1 : n / 2 ^ (3000 : Int).toNat ≤ n := Int.ediv_le_self _ hn0
              have h3 : 0 ≤ n / 2 ^ (3000 : Int).toNat := Int.ediv_nonneg hn0 (Int.pow_nonneg (by decide))
              generalize n / 2 ^ (3000 : Int).toNat = e at h1 h3
              omega
            have hbits := intBits_lt (by decide) hd
            refine i_rI ⟨by decide, by omega⟩ ?_
            walk_at "go"
            exact ⟨sz3, fun q hq => fin _ _ _ q hq⟩
          · walk_at "go"
            exact ⟨sz3, fun q hq => fin _ _ _ q hq⟩
end
abbrev s_law_alphabet : Stmt := top 38
theorem sc_law_alphabet : FnScope ["source", "menu"] ["source"] (fnScope s_law_alphabet) := ⟨rfl, rfl, rfl, by decide +kernel, rfl, by decide +kernel, by decide +kernel⟩
def alMenu : List (List Nat) := [[97, 98], [98, 100], [120, 121, 122], [97], [97, 98, 99], [99, 101], [113]]
def sp_law_alphabet : Sp := fun vs H Q _ => ∃ (S : AS) (a : Addr), vs = [.ref a] ∧ S a ∧ Srcs S H ∧ ∀ al H', al ∈ alMenu → AlOk al → Ev S H H' → Q (.str (SX.S al)) H'
section
variable {P : Program} {w : World} {K : PySem.W.Frag} {mg : Str → Option Value} {base : Heap} {C : Addr} {r : Er}
set_option maxHeartbeats 4000000 in
theorem ok_law_alphabet {f : Addr} {fd : FuncData} (F : Def K mg "_law_alphabet" s_law_alphabet f fd) (T : Txt K mg C r) (b : Binds K fd ["source"] []) (c_law_pick : Cal P w K mg base 1 "_law_pick" sp_law_pick []) : Cal P w K mg base 2 "_law_alphabet" (sp_law_alphabet) [] := by
  refine cal0 F b .nil sc_law_alphabet (fun vs H Q E h => ?_) (fun cdv A outer s H vs Q E hr h => ?_)
  · obtain ⟨_, _, rfl, _⟩ := h
    rfl
  · obtain ⟨S, a, rfl, ha, hS, k⟩ := h
    refine ⟨_, (pss_cons (ps_set (i := 1) sc_law_alphabet.nd rfl (by first | exact Or.inl rfl | exact Or.inr rfl) (pe_lst (pa_cons pe_str (pa_cons pe_str (pa_cons pe_str (pa_cons pe_str (pa_cons pe_str (pa_cons pe_str (pa_cons pe_str (pa_cons pe_str (pa_cons pe_str (pa_cons pe_str (pa_cons pe_str (pa_cons pe_str pa_nil))))))))))))))
        (pss_one (ps_ret (pe_ix (ixK K rfl) (pv 1) (pe_c c_law_pick hr (by decide) rfl (pa_cons (pv 0) (pa_cons (pe_callB (lenK K rfl) (by rfl) T.b_len (by decide +kernel) (pa_cons (pv 1) pa_nil)) pa_nil))) (fun _ _ => rfl))))), ?_⟩
    walk_at "go"
    refine ⟨szl (by show 12 ≤ 16777216; decide), fun p hp => ?_⟩
    walk_at "go"
    have e1 := Ev.laid (o := .lst [.str "ab", .str "ab", .str "ab", .str "ab", .str "bd", .str "ab", .str "xyz", .str "a", .str "abc", .str "ce", .str "ab", .str "q"]) hS hp
    refine ⟨S, a, _, rfl, ha, e1.src, by decide, by decide, fun d H' h0 h1 e2 => ?_⟩
    have hp2 := e2.at (fun z => hS.notin hp z) upd_same
    have key : ∀ (al : List Nat) (z : Str), al ∈ alMenu → SX.S al = z → AlOk al → atI ([.str "ab", .str "ab", .str "ab", .str "ab", .str "bd", .str "ab", .str "xyz", .str "a", .str "abc", .str "ce", .str "ab", .str "q"] : List V) d = some (.str z) → rIx K (.ref p) (.int d) H' Q := fun al z hm e ok h => by
      refine i_ixL hp2 h ?_
      rw [← e]
      exact k al H' hm ok (e1.trans e2)
    have ok1 : ∀ a, 97 ≤ a ∧ a ≤ 122 → AlOk [a] := fun a h => ⟨by show 1 ≤ 1; decide, by show 1 ≤ 3; decide, fun c hc => by rw [List.mem_singleton.mp hc]; exact h, by simp⟩
    have h1' : d < 12 := h1
    have hd : d = 0 ∨ d = 1 ∨ d = 2 ∨ d = 3 ∨ d = 4 ∨ d = 5 ∨ d = 6 ∨ d = 7 ∨ d = 8 ∨ d = 9 ∨ d = 10 ∨ d = 11 := by omega
    have kab : AlOk [97, 98] := ⟨by decide, by decide, by decide, by decide⟩
    have kbd : AlOk [98, 100] := ⟨by decide, by decide, by decide, by decide⟩
    have kxyz : AlOk [120, 121, 122] := ⟨by decide, by decide, by decide, by decide⟩
    have ka : AlOk [97] := ⟨by decide, by decide, by decide, by decide⟩
    have kabc : AlOk [97, 98, 99] := ⟨by decide, by decide, by decide, by decide⟩
    have kce : AlOk [99, 101] := ⟨by decide, by decide, by decide, by decide⟩
    have kq : AlOk [113] := ⟨by decide, by decide, by decide, by decide⟩
    rcases hd with rfl | rfl | rfl | rfl | rfl | rfl | rfl | rfl | rfl | rfl | rfl | rfl
    · exact key [97, 98] "ab" (by decide) rfl kab rfl
    · exact key [97, 98] "ab" (by decide) rfl kab rfl
    · exact key [97, 98] "ab" (by decide) rfl kab rfl
    · exact key [97, 98] "ab" (by decide) rfl kab rfl
    · exact key [98, 100] "bd" (by decide) rfl kbd rfl
    · exact key [97, 98] "ab" (by decide) rfl kab rfl
    · exact key [120, 121, 122] "xyz" (by decide) rfl kxyz rfl
    · exact key [97] "a" (by decide) rfl ka rfl
    · exact key [97, 98, 99] "abc" (by decide) rfl kabc rfl
    · exact key [99, 101] "ce" (by decide) rfl kce rfl
    · exact key [97, 98] "ab" (by decide) rfl kab rfl
    · exact key [113] "q" (by decide) rfl kq rfl
end
abbrev s_law_word : Stmt := top 39
theorem sc_law_word : FnScope ["source", "alphabet", "most", "size", "k"] ["source", "alphabet", "most"] (fnScope s_law_word) := ⟨rfl, rfl, rfl, by decide +kernel, rfl, by decide +kernel, by decide +kernel⟩
def sp_law_word : Sp := fun vs H Q _ => ∃ (S : AS) (a : Addr) (al : List Nat) (most : Nat), vs = [.ref a, .str (SX.S al), .int (most : Int)] ∧ S a ∧ Srcs S H ∧ AlOk al ∧ most ≤ 1000 ∧ ∀ z w H', z.length ≤ most → Word al w z → Ev S H H' → Q (.str (SX.S z)) H'
section
variable {P : Program} {w : World} {K : PySem.W.Frag} {mg : Str → Option Value} {base : Heap} {C : Addr} {r : Er}
set_option maxHeartbeats 4000000 in
theorem ok_law_word {f : Addr} {fd : FuncData} (F : Def K mg "_law_word" s_law_word f fd) (T : Txt K mg C r) (b : Binds K fd ["source", "alphabet", "most"] []) (c_law_pick : Cal P w K mg base 1 "_law_pick" sp_law_pick []) : Cal P w K mg base 2 "_law_word" (sp_law_word) [] := by
  refine cal0 F b .nil sc_law_word (fun vs H Q E h => ?_) (fun cdv A outer s H vs Q E hr h => ?_)
  · obtain ⟨_, _, _, _, rfl, _⟩ := h
    rfl
  · obtain ⟨S, a, al, most, rfl, ha, hS, hal, h0, k⟩ := h
    refine ⟨_, (pss_cons (ps_set (i := 3) sc_law_word.nd rfl (by first | exact Or.inl rfl | exact Or.inr rfl) (pe_c c_law_pick hr (by decide) rfl (pa_cons (pv 0) (pa_cons (pe_op op_add (pv 2) pe_int) pa_nil))))
        (pss_one (ps_ret (joinK K rfl pe_str (pe_lc (own := [("k", 4)]) rfl sc_law_word.nd (pi_range1 (by rfl) T.b_range (pa_cons (pv 3) pa_nil)) (blkOk_by (by kernel_rfl)) (fun _ _ _ _ _ => (pg_name (i := 4) sc_law_word.nd rfl (by first | exact Or.inl rfl | exact Or.inr rfl))) (fun _ _ _ _ _ => pts_nil) (fun _ _ _ _ _ => (pe_ix (ixK K rfl) (pv 1) (pe_c c_law_pick hr (by decide) rfl (pa_cons (pv 0) (pa_cons (pe_callB (lenK K rfl) (by rfl) T.b_len (by decide +kernel) (pa_cons (pv 1) pa_nil)) pa_nil))) (fun _ _ => rfl)))))))), ?_⟩
    walk_at "go"
    refine ⟨S, a, _, rfl, ha, hS, by omega, by omega, fun d H1 h1 h2 e1 => ?_⟩
    obtain ⟨d, rfl⟩ := Int.eq_ofNat_of_zero_le h1
    walk_at "go"
    have hpos := hal.pos
    have hle := hal.le
    have hl : (SX.S al).length = al.length := SX.S_len al
    refine ⟨by omega, by omega, fun D hD => ?_⟩
    rw [show (((d : Nat) : Int)).toNat = d from Int.toNat_natCast d]
    have hS1 := e1.src
    refine rng0_lc (fun i H' => Ev S H1 H' ∧ ∃ w : List Nat, w.length = i ∧ (∀ x ∈ w, x < al.length) ∧ H' D = some (.lst ((w.map fun x => al.getD x 0).map fun c => V.str ⟨#[c]⟩))) ⟨.laid hS1 hD, [], rfl, by simp, upd_same⟩ (fun i H' hi hq => ?_) (fun H' hq => ?_)
    · obtain ⟨e2, w, hw, hw2, hD2⟩ := hq
      walk_at "go"
      refine i_lenS (szl (by omega)) ?_
      walk_at "go"
      refine ⟨S, a, _, rfl, ha, e2.src, by omega, by omega, fun x H2 h3 h4 e3 => ?_⟩
      obtain ⟨x, rfl⟩ := Int.eq_ofNat_of_zero_le h3
      have hx : x < al.length := by omega
      have hc : al[x]? = some (al.getD x 0) := by
        rw [List.getD_eq_getElem?_getD, List.getElem?_eq_getElem hx]
        rfl
      refine i_ixS (szl (by omega)) (S_at hc) ?_
      refine ⟨_, e3.at (hS1.notin hD) hD2, szlt (by rw [List.length_map, List.length_map]; omega), Ev.put hS1 (e2.trans e3) hD, w ++ [x], by simp [hw], fun y hy => ?_, by rw [upd_same, List.map_append, List.map_append]; rfl⟩
      rcases List.mem_append.mp hy with hy | hy
      · exact hw2 y hy
      · rw [List.mem_singleton.mp hy]; exact hx
    · obtain ⟨e2, w, hw, hw2, hD2⟩ := hq
      walk_at "go"
      have hj := join_one (w.map fun x => al.getD x 0)
      refine ⟨"", D, (w.map fun x => al.getD x 0).map fun c => (⟨#[c]⟩ : Str), rfl, rfl, .inl (SqL.of (by rw [hD2, List.map_map, List.map_map, List.map_map]; rfl)), ?_, ?_⟩
      · rw [join_sum, List.length_map, List.length_map, show (("" : Str).length) = 0 from rfl]
        omega
      · rw [hj]
        exact k _ w H' (by rw [List.length_map]; omega) ⟨hw2, rfl⟩ (e1.trans e2)
end
abbrev s_law_reader : Stmt := top 40
theorem sc_law_reader : FnScope ["source", "many", "most", "size", "moves", "good", "p", "t"] ["source", "many", "most"] (fnScope s_law_reader) := ⟨rfl, rfl, rfl, by decide +kernel, rfl, by decide +kernel, by decide +kernel⟩
def sp_law_reader : Sp := fun vs H Q _ => ∃ (S : AS) (a : Addr) (m most : Nat), vs = [.ref a, .int (m : Int), .int (most : Int)] ∧ S a ∧ Srcs S H ∧ 0 < m ∧ m ≤ 3 ∧ 0 < most ∧ most ≤ 60 ∧ ∀ p rs gd H', Ev S H H' → Mach S H' p rs gd → WF m rs → GOK rs.length gd → rs.length ≤ most → Q (.ref p) H'
section
variable {P : Program} {w : World} {K : PySem.W.Frag} {mg : Str → Option Value} {base : Heap} {C : Addr} {r : Er}
set_option maxHeartbeats 4000000 in
theorem ok_law_reader {f : Addr} {fd : FuncData} (F : Def K mg "_law_reader" s_law_reader f fd) (T : Txt K mg C r) (b : Binds K fd ["source", "many", "most"] []) (c_law_pick : Cal P w K mg base 1 "_law_pick" sp_law_pick []) : Cal P w K mg base 2 "_law_reader" (sp_law_reader) [] := by
  refine cal0 F b .nil sc_law_reader (fun vs H Q E h => ?_) (fun cdv A outer s H vs Q E hr h => ?_)
  · obtain ⟨_, _, _, _, rfl, _⟩ := h
    rfl
  · obtain ⟨S, a, m, most, rfl, ha, hS, hm0, hm, h0, h1, k⟩ := h
    refine ⟨_, (pss_cons (ps_set (i := 3) sc_law_reader.nd rfl (by first | exact Or.inl rfl | exact Or.inr rfl) (pe_op op_add pe_int (pe_c c_law_pick hr (by decide) rfl (pa_cons (pv 0) (pa_cons (pv 2) pa_nil)))))
        (pss_cons (ps_setLc (i := 4) (own := [("p", 6)]) rfl sc_law_reader.nd rfl rfl (sw_true rfl rfl rfl (by decide +kernel)) (pi_range1 (by rfl) T.b_range (pa_cons (pv 3) pa_nil)) (blkOk_by (by kernel_rfl)) (fun _ _ _ _ _ => (pg_name (i := 6) sc_law_reader.nd rfl (by first | exact Or.inl rfl | exact Or.inr rfl))) (fun _ _ _ _ _ => pts_nil) (fun _ _ _ _ _ => (pe_lc (own := [("t", 7)]) rfl sc_law_reader.nd (pi_range1 (by rfl) T.b_range (pa_cons (pv 1) pa_nil)) (blkOk_by (by kernel_rfl)) (fun _ _ _ _ _ => (pg_name (i := 7) sc_law_reader.nd rfl (by first | exact Or.inl rfl | exact Or.inr rfl))) (fun _ _ _ _ _ => pts_nil) (fun _ _ _ _ _ => (pe_c c_law_pick hr (by decide) rfl (pa_cons (pv 0) (pa_cons (pv 3) pa_nil)))))))
        (pss_cons (ps_setLc (i := 5) (own := [("p", 6)]) rfl sc_law_reader.nd rfl rfl (sw_true rfl rfl rfl (by decide +kernel)) (pi_range1 (by rfl) T.b_range (pa_cons (pv 3) pa_nil)) (blkOk_by (by kernel_rfl)) (fun _ _ _ _ _ => (pg_name (i := 6) sc_law_reader.nd rfl (by first | exact Or.inl rfl | exact Or.inr rfl))) (fun _ _ _ _ _ => (pts_one (pt_cmpR op_eq (pe_c c_law_pick hr (by decide) rfl (pa_cons (pv 0) (pa_cons pe_int pa_nil))) pe_int (nomark _)))) (fun _ _ _ _ _ => (pv 6)))
        (pss_cons (ps_if (PW.pt (pw_and (pt_cmpR op_eq (pe_callB (lenK K rfl) (by rfl) T.b_len (by decide +kernel) (pa_cons (pv 5) pa_nil)) pe_int (nomark _)) (pw_and1 (pt_cmpR op_gt (pe_c c_law_pick hr (by decide) rfl (pa_cons (pv 0) (pa_cons pe_int pa_nil))) pe_int (nomark _))))) (pss_one (ps_set (i := 5) sc_law_reader.nd rfl (by first | exact Or.inl rfl | exact Or.inr rfl) (pe_lst (pa_cons (pe_c c_law_pick hr (by decide) rfl (pa_cons (pv 0) (pa_cons (pv 3) pa_nil))) pa_nil)))) pss_nil)
        (pss_one (ps_ret (pe_tup (pa_cons (pv 4) (pa_cons (pv 5) pa_nil))))))))), ?_⟩
    walk_at "go"
    refine ⟨S, a, _, rfl, ha, hS, by omega, by omega, fun d H1 g0 g1 e1 => ?_⟩
    obtain ⟨d, rfl⟩ := Int.eq_ofNat_of_zero_le g0
    have hS1 := e1.src
    walk_at "go"
    refine ⟨by omega, by omega, fun D hD => ?_⟩
    rw [show (1 + ((d : Nat) : Int)).toNat = d + 1 by omega]
    generalize hsz : d + 1 = size
    have hsz1 : (1 + (d : Int)) = (size : Int) := by omega
    have hsz2 : size ≤ most := by omega
    have hsz3 : 0 < size := by omega
    rw [hsz1]
    refine rng0_lc (fun i H' => Ev S H1 H' ∧ ∃ bs rws, H' D = some (.lst (bs.map V.ref)) ∧ Paired (fun a r => Ints (fun b => S b ∨ b = D) H' a r) bs rws ∧ rws.length = i ∧ ∀ r ∈ rws, r.length = m ∧ ∀ t ∈ r, t < size) ⟨.laid hS1 hD, [], [], upd_same, .nil, rfl, by simp⟩ (fun i H' hi hq => ?_) (fun H' hq => ?_)
    · obtain ⟨e2, bs, rws, hD2, hbs, hlen, hrw⟩ := hq
      have hS2 := e2.src
      walk_at "go"
      refine ⟨by omega, by omega, fun E hE => ?_⟩
      rw [show ((m : Nat) : Int).toNat = m from Int.toNat_natCast m]
      refine rng0_lc (fun q H3 => Ev S H' H3 ∧ ∃ ns : List Nat, ns.length = q ∧ (∀ t ∈ ns, t < size) ∧ H3 E = some (.lst (ns.map vn))) ⟨.laid hS2 hE, [], rfl, by simp, upd_same⟩ (fun q H3 hq3 hq => ?_) (fun H3 hq => ?_)
      · obtain ⟨e3, ns, hns, hns2, hE3⟩ := hq
        walk_at "go"
        refine ⟨S, a, _, rfl, ha, e3.src, by omega, by omega, fun x H4 g2 g3 e4 => ?_⟩
        obtain ⟨x, rfl⟩ := Int.eq_ofNat_of_zero_le g2
        refine ⟨_, e4.at (hS2.notin hE) hE3, szlt (by rw [List.length_map]; omega), Ev.put hS2 (e3.trans e4) hE, ns ++ [x], by simp [hns], fun y hy => ?_, by rw [upd_same, List.map_append]; rfl⟩
        rcases List.mem_append.mp hy with hy | hy
        · exact hns2 y hy
        · rw [List.mem_singleton.mp hy]; omega
      · obtain ⟨e3, ns, hns, hns2, hE3⟩ := hq
        have hED : E ≠ D := fun z => by rw [z, hD2] at hE; cases hE
        have hD3 := e3.at (hS1.notin hD) hD2
        refine ⟨_, hD3, szlt (by rw [List.length_map, hbs.length]; omega), Ev.put hS1 (e2.trans e3) hD, bs ++ [E], rws ++ [ns], by rw [upd_same, List.map_append]; rfl, ?_, by simp [hlen], fun r hr => ?_⟩
        · have kk : Kp (fun b => S b ∨ b = D) H' (upd H3 D (.lst (bs.map V.ref ++ [V.ref E]))) := fun b u n z => by
            rw [upd_ne (fun y => n (.inr y))]
            exact e3.kp b u (fun y => n (.inl y)) z
          exact U.Paired.snoc (Paired.mapP hbs fun b r z => z.kp kk fun _ z => z) ⟨fun z => z.elim (hS2.notin hE) hED, false, by rw [upd_ne hED]; exact hE3⟩
        · rcases List.mem_append.mp hr with hr | hr
          · exact hrw r hr
          · rw [List.mem_singleton.mp hr]; exact ⟨hns, hns2⟩
    · obtain ⟨e2, bs, rws, hD2, hbs, hlen, hrw⟩ := hq
      walk_at "go"
      refine ⟨by omega, by omega, fun G hG => ?_⟩
      rw [Int.toNat_natCast]
      have hS2 := e2.src
      have hrows : Rows S H' D rws := ⟨hS1.notin hD, false, bs, hD2, Paired.mapP hbs fun b r z => z.weak fun _ y => .inl y⟩
      have hwf : WF m rws := .of (by omega) (by omega) hm (fun r hr => (hrw r hr).1) (fun r hr t ht => by rw [hlen]; exact (hrw r hr).2 t ht)
      refine rng0_lc (fun i H3 => Ev S H' H3 ∧ ∃ gd : List Nat, H3 G = some (.lst (gd.map vn)) ∧ gd.Pairwise (· < ·) ∧ (∀ x ∈ gd, x < i) ∧ gd.length ≤ i) ⟨.laid hS2 hG, [], upd_same, .nil, by simp, Nat.le_refl _⟩ (fun i H3 hi hq => ?_) (fun H3 hq => ?_)
      · obtain ⟨e3, gd, hG3, hp, hlt, hgl⟩ := hq
        walk_at "go"
        refine ⟨S, a, _, rfl, ha, e3.src, by omega, by omega, fun x H4 g2 g3 e4 => ?_⟩
        walk_at "go"
        have hG4 := e4.at (hS2.notin hG) hG3
        refine iteD (fun hx => ?_) (fun hx => ?_)
        · walk_at "go"
          refine ⟨_, hG4, szlt (by rw [List.length_map]; omega), Ev.put hS2 (e3.trans e4) hG, gd ++ [i], by rw [upd_same, List.map_append]; rfl, ?_, fun y hy => ?_, by simp; omega⟩
          · rw [List.pairwise_append]
            exact ⟨hp, by simp, fun y hy z hz => by rw [List.mem_singleton.mp hz]; exact hlt y hy⟩
          · rcases List.mem_append.mp hy with hy | hy
            · exact Nat.lt_succ_of_lt (hlt y hy)
            · rw [List.mem_singleton.mp hy]; omega
        · exact ⟨e3.trans e4, gd, hG4, hp, fun y hy => Nat.lt_succ_of_lt (hlt y hy), by omega⟩
      · obtain ⟨e3, gd, hG3, hp, hlt, hgl⟩ := hq
        have fin : ∀ (Gq : Addr) (gd' : List Nat) (H5 : Hp), Ev S H' H5 → ¬ S Gq → H5 Gq = some (.lst (gd'.map vn)) → GOK size gd' → ∀ q, H5 q = none → Q (.ref q) (upd H5 q (.tup [.ref D, .ref Gq])) := fun Gq gd' H5 e5 nS hGq ok q hq => by
          have e6 : Ev S H5 (upd H5 q (.tup [.ref D, .ref Gq])) := .laid e5.src hq
          exact k q rws gd' _ (((e1.trans e2).trans e5).trans e6) ⟨e5.src.notin hq, D, Gq, upd_same, (hrows.ev e5).ev e6, nS, false, e6.at nS hGq⟩ hwf (by rw [hlen]; exact ok) (by omega)
        walk_at "go"
        have gok1 : GOK size gd := ⟨hp, hlt⟩
        refine iteD (fun hx => ?_) (fun hx => ?_)
        · walk_at "go"
          refine ⟨S, a, _, rfl, ha, e3.src, by omega, by omega, fun x H4 g2 g3 e4 => ?_⟩
          walk_at "go"
          refine iteD (fun hx => ?_) (fun hx => ?_)
          · walk_at "go"
            refine ⟨S, a, _, rfl, ha, e4.src, by omega, by omega, fun y H5 g4 g5 e5 => ?_⟩
            obtain ⟨y, rfl⟩ := Int.eq_ofNat_of_zero_le g4
            walk_at "go"
            refine ⟨sz1, fun G2 hG2 => ?_⟩
            walk_at "go"
            refine ⟨sz2, fun q hq => ?_⟩
            have e6 : Ev S H5 (upd H5 G2 (.lst [.int (y : Int)])) := .laid e5.src hG2
            exact fin G2 [y] _ (((e3.trans e4).trans e5).trans e6) (e5.src.notin hG2) upd_same ⟨by simp, fun z hz => by rw [List.mem_singleton.mp hz]; omega⟩ q hq
          · walk_at "go"
            exact ⟨sz2, fun q hq => fin G gd _ (e3.trans e4) (hS2.notin hG) (e4.at (hS2.notin hG) hG3) gok1 q hq⟩
        · walk_at "go"
          exact ⟨sz2, fun q hq => fin G gd _ e3 (hS2.notin hG) hG3 gok1 q hq⟩
end
abbrev s_law_room : Stmt := top 41
theorem sc_law_room : FnScope ["alphabet", "moves", "text", "room", "letter"] ["alphabet", "moves", "text"] (fnScope s_law_room) := ⟨rfl, rfl, rfl, by decide +kernel, rfl, by decide +kernel, by decide +kernel⟩
def sp_law_room : Sp := fun vs H Q _ => ∃ (Z : AS) (al : List Nat) (p : Addr) (rs : Rws) (w z : List Nat), vs = [.str (SX.S al), .ref p, .str (SX.S z)] ∧ Rows Z H p rs ∧ AlOk al ∧ WF al.length rs ∧ Word al w z ∧ Q (vn (run rs 0 w)) H
section
variable {P : Program} {w : World} {K : PySem.W.Frag} {mg : Str → Option Value} {base : Heap} {C : Addr} {r : Er}
set_option maxHeartbeats 4000000 in
theorem ok_law_room {f : Addr} {fd : FuncData} (F : Def K mg "_law_room" s_law_room f fd) (T : Txt K mg C r) (b : Binds K fd ["alphabet", "moves", "text"] []) : Cal P w K mg base 1 "_law_room" (sp_law_room) [] := by
  refine cal0 F b .nil sc_law_room (fun vs H Q E h => ?_) (fun cdv A outer s H vs Q E hr h => ?_)
  · obtain ⟨_, _, _, _, _, _, rfl, _⟩ := h
    rfl
  · obtain ⟨Z, al, p, rs, w, z, rfl, hp, ha, hw, hz, k⟩ := h
    refine ⟨_, (pss_cons (ps_set (i := 3) sc_law_room.nd rfl (by first | exact Or.inl rfl | exact Or.inr rfl) pe_int)
        (pss_cons (ps_for PassesOwn.never rfl (pi_str (pv 2)) (pg_name (i := 4) sc_law_room.nd rfl (by first | exact Or.inl rfl | exact Or.inr rfl))
        (pss_one (ps_set (i := 3) sc_law_room.nd rfl (by first | exact Or.inl rfl | exact Or.inr rfl) (pe_ix (ixK K rfl) (pe_ix (ixK K rfl) (pv 1) (pv 3) (fun _ _ => rfl)) (sidxK K rfl (pv 0) (pa_cons (pv 4) pa_nil)) (fun _ _ => rfl)))))
        (pss_one (ps_ret (pv 3))))), ?_⟩
    walk_at "go"
    have hlw := hz.len
    refine str_for (fun i σ H' => ∃ x, i ≤ w.length ∧ H' = H ∧ σ = [some (.str (SX.S al)), some (.ref p), some (.str (SX.S z)), some (vn (run rs 0 (w.take i))), x]) ⟨none, Nat.zero_le _, rfl, rfl⟩ (fun i c σ H' hc hq => ?_) (fun σ H' hq => ?_)
    · obtain ⟨x, hi, rfl, rfl⟩ := hq
      have hc' : z[i]? = some c := by simpa [SX.S] using hc
      obtain ⟨a, ha1, ha2, ha3⟩ := hz.at hc'
      have hi' := (List.getElem?_eq_some_iff.mp ha1).1
      have hlt : run rs 0 (w.take i) < rs.length := hw.run_lt hw.pos fun b hb => hz.1 b (List.mem_of_mem_take hb)
      obtain ⟨t, vs, b, hv1, hv2, hv3, hb1, tb, hb2⟩ := hp.at hlt
      walk_at "go"
      refine i_ixQ hv1 hv3 ?_
      walk_at "go"
      refine i_sidx ha.nd ha3 ?_
      walk_at "go"
      refine i_ixQ hb2 (vn_at (hw.stp_at hlt ha2)) ?_
      walk_at "go"
      exact ⟨some (.str ⟨#[c]⟩), hi', rfl, by rw [take_at ha1, run_snoc]; rfl⟩
    · obtain ⟨x, hi, rfl, rfl⟩ := hq
      walk_at "go"
      have e : (w.take (SX.S z).cps.size) = w := by
        rw [show (SX.S z).cps.size = w.length from (SX.S_len z).trans hlw, List.take_length]
      rw [e]
      exact k
end
abbrev s_law_words : Stmt := top 46
theorem sc_law_words : FnScope ["error", "words"] ["error"] (fnScope s_law_words) := ⟨rfl, rfl, rfl, by decide +kernel, rfl, by decide +kernel, by decide +kernel⟩
def wordsOf (bT bU : Bool) (z : Str) : List V := ([.str "value"] ++ (if bT = true then [.str ("many " ++ reprText z)] else [])) ++ (if bU = true then [.str ("unlike " ++ reprText z)] else [])
def sp_law_words (K : PySem.W.Frag) (r : Er) : Addr → Value → Option Addr → Sp := fun a cls d vs H Q _ => ∃ (E0 : Addr) (bT bU : Bool) (dd : Addr) (z : Str), vs = [.ref a] ∧ cls = .ref E0 ∧ d = some dd ∧ ErF K r E0 bT bU ∧ H dd = some (.xd [("what", .str z)]) ∧ (reprText z).length ≤ 1000 ∧
  ∀ l H', Same H H' → H l = none → H' l = some (.lst (wordsOf bT bU z)) → Q (.ref l) H'
section
variable {P : Program} {w : World} {K : PySem.W.Frag} {mg : Str → Option Value} {base : Heap} {C : Addr} {r : Er}
set_option maxHeartbeats 4000000 in
theorem ok_law_words {f : Addr} {fd : FuncData} (F : C8.Def K mg "_law_words" s_law_words f fd) (T : Txt K mg C r) (b : Binds K fd ["error"] []) : CalE P w K mg base 1 "_law_words" (sp_law_words K r) := by
  refine ⟨f, fd, ["error"], fnE F.fn sc_law_words (fun _ _ _ vs H Q E h => ?_) (fun cdv A outer s H vs Q E p hr hf h => ?_), F.mgf, F.kp, b⟩
  · obtain ⟨_, _, _, _, _, rfl, _⟩ := h
    rfl
  · obtain ⟨E0, bT, bU, dd, z, rfl, e1, e2, er, hd, hz, k⟩ := h
    refine ⟨_, (pss_cons (ps_set (i := 1) sc_law_words.nd rfl (by first | exact Or.inl rfl | exact Or.inr rfl) (pe_lst pa_nil))
        (pss_cons (ps_if (pt_val (pe_callB (call_isP (oe := p.2) (List.mem_cons_self ..) er.xc ⟨e1, e2⟩ hf) (by rfl) T.b_isinstance (by decide +kernel) (pa_cons (pv 0) (pa_cons (pe_bltn (v := .ty "ValueError") (u := .type "ValueError") (by rfl) T.b_ValueError (by decide +kernel) rfl) pa_nil)))) (pss_one (ps_expr (bmK K rfl (pe_bm PySem.F.plainAttrs_list PySem.F.slot_list_append PySem.F.type_list_append mt_append (pv 1) (pa_cons pe_str pa_nil))))) pss_nil)
        (C8.pss_cut (ps_if (pt_val (pe_callB (call_isP (oe := p.2) (List.mem_cons_self ..) er.xc ⟨e1, e2⟩ hf) (by rfl) T.b_isinstance (by decide +kernel) (pa_cons (pv 0) (pa_cons (pe_gc (v := .ref r.TooMany) rfl ⟨_, T.mg_TooMany, rfl⟩) pa_nil)))) (pss_one (ps_expr (bmK K rfl (pe_bm PySem.F.plainAttrs_list PySem.F.slot_list_append PySem.F.type_list_append mt_append (pv 1) (pa_cons (pe_op op_add_str pe_str (pe_callB call_repr_str (by rfl) T.b_repr (by decide +kernel) (pa_cons (pe_xp (oe := p.2) (List.mem_cons_self ..) er.xf er.nw ⟨e1, e2⟩ hf (pv 0)) pa_nil))) pa_nil))))) pss_nil)
        (C8.pss_cut (ps_if (pt_val (pe_callB (call_isP (oe := p.2) (List.mem_cons_self ..) er.xc ⟨e1, e2⟩ hf) (by rfl) T.b_isinstance (by decide +kernel) (pa_cons (pv 0) (pa_cons (pe_gc (v := .ref r.Unlike) rfl ⟨_, T.mg_Unlike, rfl⟩) pa_nil)))) (pss_one (ps_expr (bmK K rfl (pe_bm PySem.F.plainAttrs_list PySem.F.slot_list_append PySem.F.type_list_append mt_append (pv 1) (pa_cons (pe_op op_add_str pe_str (pe_callB call_repr_str (by rfl) T.b_repr (by decide +kernel) (pa_cons (pe_xp (oe := p.2) (List.mem_cons_self ..) er.xf er.nw ⟨e1, e2⟩ hf (pv 0)) pa_nil))) pa_nil))))) pss_nil)
        (pss_cons (ps_if (pt_val (pe_callB (call_isPT (oe := p.2) (List.mem_cons_self ..) er.xc ⟨e1, e2⟩ hf) (by rfl) T.b_isinstance (by decide +kernel) (pa_cons (pv 0) (pa_cons (pe_tup (pa_cons (pe_gc (v := .ref r.NoName) rfl ⟨_, T.mg_NoName, rfl⟩) (pa_cons (pe_gc (v := .ref r.WrongItem) rfl ⟨_, T.mg_WrongItem, rfl⟩) (pa_cons (pe_gc (v := .ref r.WrongThing) rfl ⟨_, T.mg_WrongThing, rfl⟩) pa_nil)))) pa_nil)))) (pss_one (ps_expr (bmK K rfl (pe_bm PySem.F.plainAttrs_list PySem.F.slot_list_append PySem.F.type_list_append mt_append (pv 1) (pa_cons pe_str pa_nil))))) pss_nil)
        (pss_one (ps_ret (pv 1)))))))), ?_⟩
    walk_at "go"
    refine ⟨szl (by show 0 ≤ 16777216; decide), fun L hL => ?_⟩
    walk_at "go"
    have hdL : dd ≠ L := ne_of_none hd hL
    have hdH := hd
    have s0 : Same H (upd H L (.lst [])) := same_laid hL
    have hL1 : (upd H L (.lst [])) L = some (.lst []) := upd_same
    have hd1 := s0 _ _ hd
    generalize upd H L (.lst []) = H1 at *
    refine ⟨_, .type "ValueError", true, _, rfl, hd1, fun u h => h, er.kv, ?_⟩
    walk_at "go"
    refine i_append hL1 (by show 0 < 16777216; decide) ?_
    walk_at "go"
    have s2 : Same H (upd H1 L (.lst ([] ++ [.str "value"]))) := Same.put s0 hL
    have hL2 : (upd H1 L (.lst ([] ++ [.str "value"]))) L = some (.lst [.str "value"]) := upd_same
    generalize upd H1 L (.lst ([] ++ [.str "value"])) = H2 at *
    refine i_cut (fun σ H3 => ∃ x1, σ = [some (.ref p.1), some (.ref L)] ∧ Same H H3 ∧ H3 L = some (.lst ([.str "value"] ++ (if bT = true then [.str ("many " ++ reprText z)] else []))) ∧ x1 = z) ?_ (fun σ H3 hq => ?_)
    · walk_at "go"
      refine ⟨_, .ref r.TooMany, bT, _, rfl, s2 _ _ hd, fun u h => h, er.kt, ?_⟩
      walk_at "go"
      refine iteB (fun hb => ?_) (fun hb => ?_)
      · walk_at "go"
        refine ⟨rfl, _, .str z, s2 _ _ hd, rfl, ?_⟩
        walk_at "go"
        refine ⟨szl (by omega), ?_⟩
        walk_at "go"
        refine ⟨_, _, rfl, rfl, ?_, ?_⟩
        · rw [sizeLine_eq]
          have : ("many " : Str).length = 5 := by decide +kernel
          omega
        walk_at "go"
        refine i_append hL2 (by show 1 < 16777216; decide) ?_
        walk_at "go"
        exact ⟨z, rfl, Same.put s2 hL, by rw [upd_same, if_pos hb], rfl⟩
      · walk_at "go"
        exact ⟨z, rfl, s2, by rw [hb]; exact hL2, rfl⟩
    obtain ⟨x1, rfl, s3, hL3, _⟩ := hq
    walk_at "go"
    refine i_cut (fun σ H4 => ∃ x1, σ = [some (.ref p.1), some (.ref L)] ∧ Same H H4 ∧ H4 L = some (.lst (wordsOf bT bU z)) ∧ x1 = z) ?_ (fun σ H4 hq => ?_)
    · walk_at "go"
      refine ⟨_, .ref r.Unlike, bU, _, rfl, s3 _ _ hd, fun u h => h, er.ku, ?_⟩
      walk_at "go"
      refine iteB (fun hb => ?_) (fun hb => ?_)
      · walk_at "go"
        refine ⟨rfl, _, .str z, s3 _ _ hd, rfl, ?_⟩
        walk_at "go"
        refine ⟨szl (by omega), ?_⟩
        walk_at "go"
        refine ⟨_, _, rfl, rfl, ?_, ?_⟩
        · rw [sizeLine_eq]
          have : ("unlike " : Str).length = 7 := by decide +kernel
          omega
        walk_at "go"
        refine i_append hL3 (by cases bT <;> simp) ?_
        walk_at "go"
        exact ⟨z, rfl, Same.put s3 hL, by rw [upd_same]; unfold wordsOf; rw [if_pos hb], rfl⟩
      · walk_at "go"
        refine ⟨z, rfl, s3, ?_, rfl⟩
        rw [hL3]
        unfold wordsOf
        rw [hb, if_neg Bool.false_ne_true, List.append_nil]
    obtain ⟨x2, rfl, s4, hL4, _⟩ := hq
    walk_at "go"
    refine ⟨szl (by show 3 ≤ 16777216; decide), fun TT hTT => ?_⟩
    have sT : Same _ (upd _ TT (.tup [.ref r.NoName, .ref r.WrongItem, .ref r.WrongThing])) := same_laid hTT
    walk_at "go"
    refine ⟨TT, [r.NoName, r.WrongItem, r.WrongThing], false, _, rfl, upd_same, sT _ _ (s4 _ _ hd), er.ko, ?_⟩
    walk_at "go"
    exact k L _ (s4.trans sT) hL (sT _ _ hL4)
end
abbrev s_law_done : Stmt := top 50
theorem sc_law_done : FnScope ["word", "one", "other", "error"] ["word", "one", "other"] (fnScope s_law_done) := ⟨rfl, rfl, rfl, by decide +kernel, rfl, by decide +kernel, by decide +kernel⟩
/-- what an operator's asking tells -/
def Told (C : Addr) (al : List Nat) (J : Rws) (gd : List Nat) (H : Hp) (Q : VK) : Prop :=
  (∀ A gA, LeastOf J gd A gA → A.length ≤ 60 → ∀ p H', Same H H' → H p = none → Rd C (Old H) H' p al A gA → Q (.ref p) H') ∧
  (∀ A gA, LeastOf J gd A gA → 60 < A.length → ∀ l H', Same H H' → H l = none → H' l = some (.lst [.str "value", .str "many 'room'"]) → Q (.ref l) H')
def opW : List (Str × List Nat) := [("and", [3]), ("or", [1, 2, 3]), ("less", [1]), ("not", [])]
def sp_law_done (C : Addr) (r : Er) : Sp := fun vs H Q _ => ∃ (Z : AS) (p q : Addr) (al : List Nat) (rs : Rws) (gd : List Nat) (bl : List Nat) (rs' : Rws) (gd' : List Nat) (wd : Str) (W : List Nat), vs = [.str wd, .ref p, .ref q] ∧ Rd C Z H p al rs gd ∧ Rd C Z H q bl rs' gd' ∧ AlOk al ∧ WF al.length rs ∧ WF bl.length rs' ∧ (wd, W) ∈ opW ∧
  ((W = [] → Told C al rs (nGood rs gd) H Q) ∧ (W ≠ [] → al = bl → ∀ k, Done (jn al.length rs rs') (0, 0) k → Told C al (gRows (jn al.length rs rs') (jAt al.length rs rs' k)) (jGood al.length rs rs' gd gd' W k) H Q) ∧
    (W ≠ [] → al ≠ bl → ∀ l H', Same H H' → H l = none → H' l = some (.lst [.str "value", .str "unlike 'alphabet'"]) → Q (.ref l) H'))
section
variable {P : Program} {w : World} {K : PySem.W.Frag} {mg : Str → Option Value} {base : Heap} {C : Addr} {r : Er}
set_option maxHeartbeats 4000000 in
theorem ok_law_done {f : Addr} {fd : FuncData} (F : Def K mg "_law_done" s_law_done f fd) (T : Txt K mg C r) (b : Binds K fd ["word", "one", "other"] []) (c_law_words : CalE P w K mg base 1 "_law_words" (sp_law_words K r)) (o_and : OpM P w K mg base 7 C (PySem.dunder Operator.BitAnd.info.2) (sp_Readerd_andd C r)) (o_or : OpM P w K mg base 7 C (PySem.dunder Operator.BitOr.info.2) (sp_Readerd_ord C r)) (o_sub : OpM P w K mg base 7 C (PySem.dunder Operator.Sub.info.2) (sp_Readerd_subd C r)) (o_inv : OpM P w K mg base 6 C "__invert__" (sp_Readerd_invertd C r)) : Cal P w K mg base 9 "_law_done" (sp_law_done C r) [] := by
  refine cal0 F b .nil sc_law_done (fun vs H Q E h => ?_) (fun cdv A outer s H vs Q E hr h => ?_)
  · obtain ⟨_, _, _, _, _, _, _, _, _, _, _, rfl, _⟩ := h
    rfl
  · obtain ⟨Z, p, q, al, rs, gd, bl, rs', gd', wd, W, rfl, hp, hq, ha, hw, hw', hwd, k⟩ := h
    refine ⟨_, (pss_one (ps_try_as (i := 3) rfl rfl sc_law_done.nd rfl rfl ⟨rfl, by decide, .inl T.mg_LotsError⟩ takes0 (fun W pn xe tk _ => (pss_cons (ps_if (pt_cmpR op_eq (pv 0) pe_str (nomark _)) (pss_one (ps_ret (pe_ownbin o_and hr (by decide) tk (pv 1) (pv 2)))) pss_nil)
        (pss_cons (ps_if (pt_cmpR op_eq (pv 0) pe_str (nomark _)) (pss_one (ps_ret (pe_ownbin o_or hr (by decide) tk (pv 1) (pv 2)))) pss_nil)
        (pss_cons (ps_if (pt_cmpR op_eq (pv 0) pe_str (nomark _)) (pss_one (ps_ret (pe_ownbin o_sub hr (by decide) tk (pv 1) (pv 2)))) pss_nil)
        (pss_one (ps_ret (pe_owninv o_inv hr (by decide) tk (pv 1))))))))
        (fun a oe cls d pn hz hf => (pss_one (ps_ret (pe_cE c_law_words (List.mem_cons_self ..) hz hf (roomS hr) (by decide) rfl (pa_cons (pv 3) pa_nil))))))), ?_⟩
    walk_at "go"
    obtain ⟨k1, k2, k3⟩ := k
    obtain ⟨_, dx, pm, pg, hp1, _⟩ := id hp
    obtain ⟨_, dy, qm, qg, hq1, _⟩ := id hq
    have werr : ∀ (E0 : Addr) (bT bU : Bool) (z : Str) (dd : Addr) (H' : Hp), ErF K r E0 bT bU → H' dd = some (.xd [("what", .str z)]) → (reprText z).length ≤ 1000 → (∀ l H'', Same H' H'' → H' l = none → H'' l = some (.lst (wordsOf bT bU z)) → Q (.ref l) H'') →
        wAs K (.ref r.LotsError) 3 (fun a cls d => tRet (tCallS (sp_law_words K r a cls d) (fun _ => C8.E0) (tCons (tVar 3) tNil))) (fun _ _ _ _ => False) { nx := fun _ H' => Q .non H', rt := Q } (.ref E0) (some dd) [some (.str wd), some (.ref p), some (.ref q), none] H' :=
      fun E0 bT bU z dd H' er hd hz k => ⟨true, er.ex, fun _ a _ => ⟨.ref a, rfl, E0, bT, bU, dd, z, rfl, rfl, rfl, er, hd, hz, k⟩, fun z => by cases z⟩
    have wT : wordsOf true false "room" = [.str "value", .str "many 'room'"] := by decide +kernel
    have wU : wordsOf false true "alphabet" = [.str "value", .str "unlike 'alphabet'"] := by decide +kernel
    have okT : (reprText "room").length ≤ 1000 := by decide +kernel
    have okU : (reprText "alphabet").length ≤ 1000 := by decide +kernel
    have two : ∀ W', W' ≠ [] → W = W' → sp_op C r W' [.ref p, .ref q] H (fun v H3 => (∃ c : Addr, v = .ref c) ∧ Q v H3) (WE (wAs K (.ref r.LotsError) 3 (fun a cls d => tRet (tCallS (sp_law_words K r a cls d) (fun _ => C8.E0) (tCons (tVar 3) tNil))) (fun _ _ _ _ => False) { nx := fun _ H' => Q .non H', rt := Q }) [some (.str wd), some (.ref p), some (.ref q), none]) := fun W' hne hW =>
      ⟨Z, p, q, al, rs, gd, bl, rs', gd', rfl, hp, hq, ha, hw, hw', fun e k hk => ⟨fun A gA hL h60 p' H' s' hp' hr => ⟨⟨_, rfl⟩, by subst hW; exact (k2 hne e k hk).1 A gA hL h60 p' H' s' hp' hr⟩,
        fun A gA hL h60 d H' s' hd hx => werr _ _ _ _ d H' T.eT hx okT fun l H2 s2 hl hl2 => by subst hW; exact (k2 hne e k hk).2 A gA hL h60 l H2 (s'.trans s2) (same_free s' hl) (by rw [hl2, wT])⟩,
        fun e d H' s' hd hx => werr _ _ _ _ d H' T.eU hx okU fun l H2 s2 hl hl2 => by subst hW; exact k3 hne e l H2 (s'.trans s2) (same_free s' hl) (by rw [hl2, wU])⟩
    have hcases : (wd = "and" ∧ W = [3]) ∨ (wd = "or" ∧ W = [1, 2, 3]) ∨ (wd = "less" ∧ W = [1]) ∨ (wd = "not" ∧ W = []) := by
      simp only [opW, List.mem_cons, List.not_mem_nil, or_false, Prod.mk.injEq] at hwd
      exact hwd
    rcases hcases with ⟨rfl, hW⟩ | ⟨rfl, hW⟩ | ⟨rfl, hW⟩ | ⟨rfl, hW⟩
    · refine ite_dt rfl ?_
      walk_at "go"
      exact ⟨p, dx, _, q, dy, _, rfl, rfl, hp1, hq1, two _ (by decide) hW⟩
    · refine ite_df (by decide +kernel) ?_
      walk_at "go"
      refine ite_dt rfl ?_
      walk_at "go"
      exact ⟨p, dx, _, q, dy, _, rfl, rfl, hp1, hq1, two _ (by decide) hW⟩
    · refine ite_df (by decide +kernel) ?_
      walk_at "go"
      refine ite_df (by decide +kernel) ?_
      walk_at "go"
      refine ite_dt rfl ?_
      walk_at "go"
      exact ⟨p, dx, _, q, dy, _, rfl, rfl, hp1, hq1, two _ (by decide) hW⟩
    · refine ite_df (by decide +kernel) ?_
      walk_at "go"
      refine ite_df (by decide +kernel) ?_
      walk_at "go"
      refine ite_df (by decide +kernel) ?_
      walk_at "go"
      refine ⟨p, dx, _, rfl, hp1, Z, p, al, rs, gd, rfl, hp, ha, hw, fun A gA hL h60 p' H' s' hp' hr => (k1 hW).1 A gA hL h60 p' H' s' hp' hr, fun A gA hL h60 d H' s' hd hx => ?_⟩
      exact werr _ _ _ _ d H' T.eT hx okT fun l H2 s2 hl hl2 => (k1 hW).2 A gA hL h60 l H2 (s'.trans s2) (same_free s' hl) (by rw [hl2, wT])
end
abbrev s_law_due : Stmt := top 51
theorem sc_law_due : FnScope ["word", "first", "second"] ["word", "first", "second"] (fnScope s_law_due) := ⟨rfl, rfl, rfl, by decide +kernel, rfl, by decide +kernel, by decide +kernel⟩
/-- whether a text is due -/
def dueB (wd : Str) (b1 b2 : Bool) : Bool := if wd = "and" then b1 && b2 else if wd = "or" then b1 || b2 else if wd = "less" then b1 && !b2 else !b1
def opsW : List Str := ["and", "or", "less", "not"]
def sp_law_due : Sp := fun vs H Q _ => ∃ (wd : Str) (b1 b2 : Bool), vs = [.str wd, .bl b1, .bl b2] ∧ wd ∈ opsW ∧ Q (.bl (dueB wd b1 b2)) H
theorem ops_ne : ("or" : Str) ≠ "and" ∧ ("less" : Str) ≠ "and" ∧ ("less" : Str) ≠ "or" ∧ ("not" : Str) ≠ "and" ∧ ("not" : Str) ≠ "or" ∧ ("not" : Str) ≠ "less" := by decide +kernel
section
variable {P : Program} {w : World} {K : PySem.W.Frag} {mg : Str → Option Value} {base : Heap} {C : Addr} {r : Er}
set_option maxHeartbeats 4000000 in
theorem ok_law_due {f : Addr} {fd : FuncData} (F : Def K mg "_law_due" s_law_due f fd) (T : Txt K mg C r) (b : Binds K fd ["word", "first", "second"] []) : Cal P w K mg base 1 "_law_due" (sp_law_due) [] := by
  refine cal0 F b .nil sc_law_due (fun vs H Q E h => ?_) (fun cdv A outer s H vs Q E hr h => ?_)
  · obtain ⟨_, _, _, rfl, _⟩ := h
    rfl
  · obtain ⟨wd, b1, b2, rfl, hwd, k⟩ := h
    refine ⟨_, (pss_cons (ps_if (pt_cmpR op_eq (pv 0) pe_str (nomark _)) (pss_one (ps_ret (pe_and (pv 1) (pe_one (pv 2))))) pss_nil)
        (pss_cons (ps_if (pt_cmpR op_eq (pv 0) pe_str (nomark _)) (pss_one (ps_ret (pe_or (pv 1) (pe_one (pv 2))))) pss_nil)
        (pss_cons (ps_if (pt_cmpR op_eq (pv 0) pe_str (nomark _)) (pss_one (ps_ret (pe_and (pv 1) (pe_one (pe_not (pv 2)))))) pss_nil)
        (pss_one (ps_ret (pe_not (pv 1))))))), ?_⟩
    walk_at "go"
    obtain ⟨n1, n2, n3, n4, n5, n6⟩ := ops_ne
    simp only [opsW, List.mem_cons, List.not_mem_nil, or_false] at hwd
    rcases hwd with rfl | rfl | rfl | rfl
    · refine ite_dt rfl ?_
      walk_at "go"
      cases b1 <;> walk_at "go" <;> simpa [dueB] using k
    · refine ite_df n1 ?_
      walk_at "go"
      refine ite_dt rfl ?_
      walk_at "go"
      cases b1 <;> walk_at "go" <;> simpa [dueB, n1] using k
    · refine ite_df n2 ?_
      walk_at "go"
      refine ite_df n3 ?_
      walk_at "go"
      refine ite_dt rfl ?_
      walk_at "go"
      cases b1 <;> walk_at "go" <;> simpa [dueB, n2, n3] using k
    · refine ite_df n4 ?_
      walk_at "go"
      refine ite_df n5 ?_
      walk_at "go"
      refine ite_df n6 ?_
      walk_at "go"
      simpa [dueB, n4, n5, n6] using k
end
abbrev s_law_joint : Stmt := top 52
theorem sc_law_joint : FnScope ["one", "other", "word", "numbers", "order", "moves", "at", "p", "q", "row", "t", "pair", "marks", "k"] ["one", "other", "word"] (fnScope s_law_joint) := ⟨rfl, rfl, rfl, by decide +kernel, rfl, by decide +kernel, by decide +kernel⟩
def dueF (wd : Str) (gA gB : List Nat) (pr : Nat × Nat) : Bool := dueB wd (decide (pr.1 ∈ gA)) (decide (pr.2 ∈ gB))
def sp_law_joint : Sp := fun vs H Q _ => ∃ (Z : AS) (p q : Addr) (A : Rws) (gA : List Nat) (B : Rws) (gB : List Nat) (m : Nat) (wd : Str), vs = [.ref p, .ref q, .str wd] ∧ Mach Z H p A gA ∧ Mach Z H q B gB ∧ WF m A ∧ WF m B ∧ 0 < m ∧ wd ∈ opsW ∧
  ∀ k t H', Done (jn m A B) (0, 0) k → Same H H' → H t = none → Mach (Old H) H' t (gRows (jn m A B) (jAt m A B k)) (gGood (dueF wd gA gB) (0, 0) (jAt m A B k)) → Q (.ref t) H'
section
variable {P : Program} {w : World} {K : PySem.W.Frag} {mg : Str → Option Value} {base : Heap} {C : Addr} {r : Er}
set_option maxHeartbeats 4000000 in
theorem ok_law_joint {f : Addr} {fd : FuncData} (F : Def K mg "_law_joint" s_law_joint f fd) (T : Txt K mg C r) (b : Binds K fd ["one", "other", "word"] []) (c_law_due : Cal P w K mg base 1 "_law_due" sp_law_due []) : Cal P w K mg base 2 "_law_joint" (sp_law_joint) [] := by
  refine cal0 F b .nil sc_law_joint (fun vs H Q E h => ?_) (fun cdv A outer s H vs Q E hr h => ?_)
  · obtain ⟨_, _, _, _, _, _, _, _, _, rfl, _⟩ := h
    rfl
  · obtain ⟨Z, p, q, A, gA, B, gB, m, wd, rfl, hp, hq, hwA, hwB, hm1, hwd, k⟩ := h
    refine ⟨_, (pss_cons (ps_set (i := 3) sc_law_joint.nd rfl (by first | exact Or.inl rfl | exact Or.inr rfl) (pe_disp1N hr.units (pe_tup (pa_cons pe_int (pa_cons pe_int pa_nil))) pe_int))
        (pss_cons (ps_set (i := 4) sc_law_joint.nd rfl (by first | exact Or.inl rfl | exact Or.inr rfl) (pe_lst (pa_cons (pe_tup (pa_cons pe_int (pa_cons pe_int pa_nil))) pa_nil)))
        (pss_cons (ps_set (i := 5) sc_law_joint.nd rfl (by first | exact Or.inl rfl | exact Or.inr rfl) (pe_lst pa_nil))
        (C8.pss_cut (ps_for PassesOwn.never rfl (pi_range1 (by rfl) T.b_range (pa_cons (pe_op op_mul (pe_callB (lenK K rfl) (by rfl) T.b_len (by decide +kernel) (pa_cons (pe_ix (ixK K rfl) (pv 0) pe_int (fun _ _ => rfl)) pa_nil)) (pe_callB (lenK K rfl) (by rfl) T.b_len (by decide +kernel) (pa_cons (pe_ix (ixK K rfl) (pv 1) pe_int (fun _ _ => rfl)) pa_nil))) pa_nil)) (pg_name (i := 6) sc_law_joint.nd rfl (by first | exact Or.inl rfl | exact Or.inr rfl))
        (pss_cons (ps_if (pt_cmpR op_eq (pv 6) (pe_callB (lenK K rfl) (by rfl) T.b_len (by decide +kernel) (pa_cons (pv 4) pa_nil)) (nomark _)) (pss_one ps_break) pss_nil)
        (pss_cons (ps_asg (pe_ix (ixK K rfl) (pv 4) (pv 6) (fun _ _ => rfl)) (pg_tup rfl (pgs_cons (pg_name (i := 7) sc_law_joint.nd rfl (by first | exact Or.inl rfl | exact Or.inr rfl)) (pgs_cons (pg_name (i := 8) sc_law_joint.nd rfl (by first | exact Or.inl rfl | exact Or.inr rfl)) pgs_nil))))
        (pss_cons (ps_set (i := 9) sc_law_joint.nd rfl (by first | exact Or.inl rfl | exact Or.inr rfl) (pe_lst pa_nil))
        (pss_cons (ps_for PassesOwn.never rfl (pi_range1 (by rfl) T.b_range (pa_cons (pe_callB (lenK K rfl) (by rfl) T.b_len (by decide +kernel) (pa_cons (pe_ix (ixK K rfl) (pe_ix (ixK K rfl) (pv 0) pe_int (fun _ _ => rfl)) pe_int (fun _ _ => rfl)) pa_nil)) pa_nil)) (pg_name (i := 10) sc_law_joint.nd rfl (by first | exact Or.inl rfl | exact Or.inr rfl))
        (pss_cons (ps_set (i := 11) sc_law_joint.nd rfl (by first | exact Or.inl rfl | exact Or.inr rfl) (pe_tup (pa_cons (pe_ix (ixK K rfl) (pe_ix (ixK K rfl) (pe_ix (ixK K rfl) (pv 0) pe_int (fun _ _ => rfl)) (pv 7) (fun _ _ => rfl)) (pv 10) (fun _ _ => rfl)) (pa_cons (pe_ix (ixK K rfl) (pe_ix (ixK K rfl) (pe_ix (ixK K rfl) (pv 1) pe_int (fun _ _ => rfl)) (pv 8) (fun _ _ => rfl)) (pv 10) (fun _ _ => rfl)) pa_nil))))
        (C8.pss_cut (ps_if (pt_cmp (pc_nnotin hr.units (pv 11) (pv 3))) (pss_cons (ps_nput hr.units (pv 3) (pv 11) (pe_callB (lenK K rfl) (by rfl) T.b_len (by decide +kernel) (pa_cons (pv 4) pa_nil)) rfl)
        (pss_one (ps_expr (bmK K rfl (pe_bm PySem.F.plainAttrs_list PySem.F.slot_list_append PySem.F.type_list_append mt_append (pv 4) (pa_cons (pv 11) pa_nil)))))) pss_nil)
        (pss_one (ps_expr (bmK K rfl (pe_bm PySem.F.plainAttrs_list PySem.F.slot_list_append PySem.F.type_list_append mt_append (pv 9) (pa_cons (pe_nget hr.units (pv 3) (pv 11) (fun _ _ => rfl)) pa_nil))))))))
        (pss_one (ps_expr (bmK K rfl (pe_bm PySem.F.plainAttrs_list PySem.F.slot_list_append PySem.F.type_list_append mt_append (pv 5) (pa_cons (pv 9) pa_nil))))))))))
        (pss_cons (ps_set (i := 12) sc_law_joint.nd rfl (by first | exact Or.inl rfl | exact Or.inr rfl) (pe_lc (own := [("pair", 11)]) rfl sc_law_joint.nd (seqK K rfl (pv 4)) (blkOk_by (by kernel_rfl)) (fun _ _ _ _ _ => (pg_name (i := 11) sc_law_joint.nd rfl (by first | exact Or.inl rfl | exact Or.inr rfl))) (fun _ _ _ _ _ => pts_nil) (fun _ _ _ _ _ => (pe_c c_law_due hr (by decide) rfl (pa_cons (pv 2) (pa_cons (pe_cmpR (inK K rfl) (pe_ix (ixK K rfl) (pv 11) pe_int (fun _ _ => rfl)) (pe_ix (ixK K rfl) (pv 0) pe_int (fun _ _ => rfl)) rfl) (pa_cons (pe_cmpR (inK K rfl) (pe_ix (ixK K rfl) (pv 11) pe_int (fun _ _ => rfl)) (pe_ix (ixK K rfl) (pv 1) pe_int (fun _ _ => rfl)) rfl) pa_nil)))))))
        (pss_one (ps_ret (pe_tup (pa_cons (pv 5) (pa_cons (pe_lc (own := [("k", 13)]) rfl sc_law_joint.nd (pi_range1 (by rfl) T.b_range (pa_cons (pe_callB (lenK K rfl) (by rfl) T.b_len (by decide +kernel) (pa_cons (pv 4) pa_nil)) pa_nil)) (blkOk_by (by kernel_rfl)) (fun _ _ _ _ _ => (pg_name (i := 13) sc_law_joint.nd rfl (by first | exact Or.inl rfl | exact Or.inr rfl))) (fun _ _ _ _ _ => (pts_one (pt_val (pe_ix (ixK K rfl) (pv 12) (pv 13) (fun _ _ => rfl))))) (fun _ _ _ _ _ => (pv 13))) pa_nil)))))))))), ?_⟩
    walk_at "go"
    obtain ⟨hpZ, pm, pg, hp1, hp2, hp3⟩ := hp
    obtain ⟨hqZ, qm, qg, hq1, hq2, hq3⟩ := hq
    have hleA := hwA.le
    have hleB := hwB.le
    have hm3 := hwA.m3
    have hnm : A.length * B.length ≤ 3600 := Nat.mul_le_mul hleA hleB
    obtain ⟨tA, vA, hA1, hA2⟩ := hp2.len
    obtain ⟨tB, vB, hB1, hB2⟩ := hq2.len
    refine RDispN fun N oN hN nN => ?_
    walk_at "go"
    refine ⟨sz2, fun T0 hT0 => ?_⟩
    have hTN : T0 ≠ N := nN.old.elim fun o e => (ne_of_none e hT0).symm
    have hT02 : H T0 = none := by
      rw [upd_ne hTN] at hT0
      exact hT0
    walk_at "go"
    have n1 := nN.same (same_laid (o := .tup [.int 0, .int 0]) hT0)
    refine ⟨pk (0, 0), keyP (a := 0) (b := 0) upd_same, n1, fun o' n2 => ?_⟩
    have s3 : Same H (upd (upd (upd H N oN) T0 (.tup [.int 0, .int 0])) N o') := Same.put (Same.put (same_laid hN) hT02) hN
    generalize upd (upd (upd H N oN) T0 (.tup [.int 0, .int 0])) N o' = H3 at *
    walk_at "go"
    refine ⟨sz2, fun T1 hT1 => ?_⟩
    walk_at "go"
    refine ⟨sz1, fun O hO => ?_⟩
    walk_at "go"
    refine ⟨szl (by show 0 ≤ 16777216; decide), fun M hM => ?_⟩
    walk_at "go"
    have hO3 : H3 O = none := same_free (same_laid hT1) hO
    have hOM : O ≠ M := ne_of_none upd_same hM
    have s34 : Same H3 (upd (upd (upd H3 T1 (.tup [.int 0, .int 0])) O (.lst [.ref T1])) M (.lst [])) := ((same_laid hT1).trans (same_laid hO)).trans (same_laid hM)
    have hM3 : H3 M = none := same_free ((same_laid hT1).trans (same_laid hO)) hM
    have hOH : H O = none := same_free s3 hO3
    have hMH : H M = none := same_free s3 hM3
    have n4 := n2.same s34
    have hO4 : (upd (upd (upd H3 T1 (.tup [.int 0, .int 0])) O (.lst [.ref T1])) M (.lst [])) O = some (.lst ([T1].map V.ref)) := by rw [upd_ne hOM, upd_same]; rfl
    have hM4 : (upd (upd (upd H3 T1 (.tup [.int 0, .int 0])) O (.lst [.ref T1])) M (.lst [])) M = some (.lst (([] : List Addr).map V.ref)) := upd_same
    have hPr4 : Prs (upd (upd (upd H3 T1 (.tup [.int 0, .int 0])) O (.lst [.ref T1])) M (.lst [])) [T1] [(0, 0)] := .cons (by rw [upd_ne (ne_of_none (by rw [upd_ne (ne_of_none upd_same hO), upd_same]) hM), upd_ne (ne_of_none upd_same hO), upd_same]; rfl) .nil
    have s04 := s3.trans s34
    generalize upd (upd (upd H3 T1 (.tup [.int 0, .int 0])) O (.lst [.ref T1])) M (.lst []) = H4 at *
    refine i_cut (fun σ H5 => ∃ (i : Nat) (x6 x7 x8 x9 x10 x11 : Option V) (bs ms : List Addr), σ = [some (.ref p), some (.ref q), some (.str wd), some (.ref N), some (.ref O), some (.ref M), x6, x7, x8, x9, x10, x11, none, none] ∧ Same H H5 ∧ H5 O = some (.lst (bs.map V.ref)) ∧ Prs H5 bs (jAt m A B i) ∧ H5 M = some (.lst (ms.map V.ref)) ∧
        Paired (fun a r => Ints (Old H) H5 a r) ms (((jAt m A B i).take i).map fun x => (jn m A B x).map (pl (jAt m A B i))) ∧ Done (jn m A B) (0, 0) i) ?_ (fun σ H5 hz => ?_)
    · walk_at "go"
      refine i_ixT (s04 _ _ hp1) (i := 0) (v := .ref pm) rfl ?_
      walk_at "go"
      refine i_lenQ (s04 _ _ hA1) ?_
      walk_at "go"
      refine i_ixT (s04 _ _ hq1) (i := 0) (v := .ref qm) rfl ?_
      walk_at "go"
      refine i_lenQ (s04 _ _ hB1) ?_
      walk_at "go"
      rw [hA2, hB2]
      walk_at "go"
      rw [show ((A.length : Int) * (B.length : Int)) = ((A.length * B.length : Nat) : Int) from (Int.natCast_mul _ _).symm]
      refine ⟨by omega, by omega, ?_⟩
      rw [Int.toNat_natCast]
      refine rng0_for (fun i σ H5 => ∃ (x6 x7 x8 x9 x10 x11 : Option V) (bs ms : List Addr), σ = [some (.ref p), some (.ref q), some (.str wd), some (.ref N), some (.ref O), some (.ref M), x6, x7, x8, x9, x10, x11, none, none] ∧ Same H H5 ∧ NDict P w H5 N (mapN ((jAt m A B i).map pk) (numD ((jAt m A B i).map pk))) ∧ H5 O = some (.lst (bs.map V.ref)) ∧ Prs H5 bs (jAt m A B i) ∧ H5 M = some (.lst (ms.map V.ref)) ∧
        Paired (fun a r => Ints (Old H) H5 a r) ms (((jAt m A B i).take i).map fun x => (jn m A B x).map (pl (jAt m A B i))) ∧ (∀ a ∈ ms, a ≠ O ∧ a ≠ M) ∧ ∀ q, q < i → q < (jAt m A B q).length)
        ⟨none, none, none, none, none, none, [T1], [], rfl, s04, n4, hO4, hPr4, hM4, .nil, (by intro a z; cases z), fun q z => absurd z (Nat.not_lt_zero q)⟩ (fun i σ H5 hi hz => ?_) (fun σ H5 hz => ?_)
      · obtain ⟨x6, x7, x8, x9, x10, x11, bs, ms, rfl, s5, n5, hO5, hPr5, hM5, hms5, hmsn, hok⟩ := hz
        have hbl := hPr5.length
        have hplen : (jAt m A B i).length ≤ A.length * B.length := pairs_len (g_nd (nx := jn m A B) (s := (0, 0)) i) (j_lt hwA.b hwB.b i)
        have hil : i ≤ (jAt m A B i).length := g_le hok
        walk_at "go"
        rw [List.length_map, hbl]
        refine iteD (fun hx => ?_) (fun hx => ?_)
        · walk_at "go"
          exact ⟨i, _, _, _, _, _, _, bs, ms, rfl, s5, hO5, hPr5, hM5, hms5, ⟨by show (jAt m A B i).length = i; omega, hok⟩⟩
        have hx' : i < (jAt m A B i).length := by omega
        obtain ⟨pr, hpr1⟩ : ∃ pr, (jAt m A B i)[i]? = some pr := ⟨_, List.getElem?_eq_getElem hx'⟩
        obtain ⟨hpa, hpb⟩ := j_lt hwA.b hwB.b i pr (List.mem_of_getElem? hpr1)
        have hnext : jAt m A B (i + 1) = addsN (jAt m A B i) (jn m A B pr) := by
          show addsN (gAt (jn m A B) (0, 0) i) (jn m A B ((gAt (jn m A B) (0, 0) i).getD i (0, 0))) = _
          rw [List.getD_eq_getElem?_getD, show (gAt (jn m A B) (0, 0) i)[i]? = some pr from hpr1]
          rfl
        obtain ⟨b, hb1, hb2⟩ := Paired.at1 hPr5 hpr1
        walk_at "go"
        refine i_ixL hO5 (v := .ref b) (atI_nat (map_at hb1)) ?_
        walk_at "go"
        refine ⟨szl (by show 0 ≤ 16777216; decide), fun R hR => ?_⟩
        have hRH : H R = none := same_free s5 hR
        have sR : Same H5 (upd H5 R (.lst [])) := same_laid hR
        have n6 := n5.same sR
        have hO6 := sR _ _ hO5
        have hM6 := sR _ _ hM5
        have hPr6 := hPr5.same sR
        have hms6 : Paired (fun a r => Ints (Old H) (upd H5 R (.lst [])) a r) ms (((jAt m A B i).take i).map fun x => (jn m A B x).map (pl (jAt m A B i))) := Paired.mapP hms5 fun _ _ z => z.same sR
        have s6 := s5.trans sR
        have hR6 : (upd H5 R (.lst [])) R = some (.lst (([] : List Nat).map vn)) := upd_same
        have hRO : R ≠ O := (ne_of_none hO5 hR).symm
        have hRM : R ≠ M := (ne_of_none hM5 hR).symm
        have hNR : N ≠ R := n5.old.elim fun o e => ne_of_none e hR
        have hNO : N ≠ O := n5.notlst hO5
        have hNM : N ≠ M := n5.notlst hM5
        have hmsR : ∀ a ∈ ms, a ≠ R ∧ a ≠ N := fun a ha => by
          obtain ⟨q, hq⟩ := List.mem_iff_getElem?.mp ha
          obtain ⟨y, _, hy⟩ := Paired.at0 hms5 hq
          obtain ⟨t, ht⟩ := hy.2
          refine ⟨ne_of_none ht hR, fun e => ?_⟩
          rw [e] at ht
          cases t with
          | true => exact n5.nottup _ ht
          | false => exact n5.notlst ht rfl
        generalize upd H5 R (.lst []) = H6 at *
        walk_at "go"
        obtain ⟨tr, vr, ar, hr1, hr2, hr3, hr4, tr5, hr6⟩ := hp2.at hpa
        obtain ⟨tr', vr', ar', hr1', hr2', hr3', hr4', tr5', hr6'⟩ := hq2.at hpb
        obtain ⟨t0, v0, a0, hz1, hz2, hz3, hz4, tz5, hz6⟩ := hp2.at hwA.pos
        have hwr := hwA.row_len hpa
        have hw0 := hwA.row_len hwA.pos
        refine i_ixT (s6 _ _ hp1) (i := 0) (v := .ref pm) rfl ?_
        walk_at "go"
        refine i_ixQ (s6 _ _ hz1) (i := 0) (v := .ref a0) hz3 ?_
        walk_at "go"
        refine i_lenQ (s6 _ _ hz6) ?_
        walk_at "go"
        rw [List.length_map, hw0]
        walk_at "go"
        refine ⟨by omega, by omega, ?_⟩
        rw [Int.toNat_natCast]
        refine rng0_for (fun j σ H7 => ∃ (x10 x11 : Option V) (bs : List Addr), σ = [some (.ref p), some (.ref q), some (.str wd), some (.ref N), some (.ref O), some (.ref M), some (vn i), some (vn pr.1), some (vn pr.2), some (.ref R), x10, x11, none, none] ∧ Same H H7 ∧ NDict P w H7 N (mapN ((addsN (jAt m A B i) ((jn m A B pr).take j)).map pk) (numD ((addsN (jAt m A B i) ((jn m A B pr).take j)).map pk))) ∧
            H7 O = some (.lst (bs.map V.ref)) ∧ Prs H7 bs (addsN (jAt m A B i) ((jn m A B pr).take j)) ∧ H7 M = some (.lst (ms.map V.ref)) ∧ Paired (fun a r => Ints (Old H) H7 a r) ms (((jAt m A B i).take i).map fun x => (jn m A B x).map (pl (jAt m A B i))) ∧
            H7 R = some (.lst ((((jn m A B pr).take j).map (pl (addsN (jAt m A B i) ((jn m A B pr).take j)))).map vn)))
          ⟨x10, x11, bs, rfl, s6, by simpa [addsN_nil] using n6, hO6, by simpa [addsN_nil] using hPr6, hM6, hms6, by simpa using hR6⟩ (fun j σ H7 hj hz => ?_) (fun σ H7 hz => ?_)
        · obtain ⟨y10, y11, bs, rfl, s7, n7, hO7, hPr7, hM7, hms7, hR7⟩ := hz
          have hnj : (jn m A B pr)[j]? = some (stp A pr.1 j, stp B pr.2 j) := jn_at hj
          have htk : (jn m A B pr).take (j + 1) = (jn m A B pr).take j ++ [(stp A pr.1 j, stp B pr.2 j)] := take_at hnj
          have hbl7 := hPr7.length
          have hol : ∀ x ∈ addsN (jAt m A B i) ((jn m A B pr).take j), x.1 < A.length ∧ x.2 < B.length := fun x hx => by
            refine j_lt hwA.b hwB.b (i + 1) x ?_
            rw [hnext, mem_addsN]
            exact (mem_addsN.mp hx).imp id fun z => List.mem_of_mem_take z
          have hplen7 := pairs_len (nd_addsN (ts := (jn m A B pr).take j) (g_nd (nx := jn m A B) (s := (0, 0)) i)) hol
          walk_at "go"
          refine i_ixT (s7 _ _ hp1) (i := 0) (v := .ref pm) rfl ?_
          walk_at "go"
          refine i_ixQ (s7 _ _ hr1) hr3 ?_
          walk_at "go"
          refine i_ixQ (s7 _ _ hr6) (vn_at (hwA.stp_at hpa hj)) ?_
          walk_at "go"
          refine i_ixT (s7 _ _ hq1) (i := 0) (v := .ref qm) rfl ?_
          walk_at "go"
          refine i_ixQ (s7 _ _ hr1') hr3' ?_
          walk_at "go"
          refine i_ixQ (s7 _ _ hr6') (vn_at (hwB.stp_at hpb hj)) ?_
          walk_at "go"
          refine ⟨sz2, fun PT hPT => ?_⟩
          walk_at "go"
          generalize hsa : stp A pr.1 j = na at *
          generalize hsb : stp B pr.2 j = nb at *
          have sP : Same H7 (upd H7 PT (.tup [.int (na : Int), .int (nb : Int)])) := same_laid hPT
          have n9 := n7.same sP
          have hO9 := sP _ _ hO7
          have hM9 := sP _ _ hM7
          have hR9 := sP _ _ hR7
          have hPr9 := hPr7.same sP
          have hms9 : Paired (fun a r => Ints (Old H) (upd H7 PT (.tup [.int (na : Int), .int (nb : Int)])) a r) ms (((jAt m A B i).take i).map fun x => (jn m A B x).map (pl (jAt m A B i))) := Paired.mapP hms7 fun _ _ z => z.same sP
          have s9 := s7.trans sP
          have hT9 : (upd H7 PT (.tup [.int (na : Int), .int (nb : Int)])) PT = some (.tup [.int (na : Int), .int (nb : Int)]) := upd_same
          generalize upd H7 PT (.tup [.int (na : Int), .int (nb : Int)]) = H9 at *
          have ky : KeyAt H9 (pk (na, nb)) (.ref PT) := keyP hT9
          generalize hcur : addsN (jAt m A B i) ((jn m A B pr).take j) = cur at *
          have hcur2 : addsN (jAt m A B i) ((jn m A B pr).take (j + 1)) = addN cur (na, nb) := by rw [htk, addsN_snoc, hcur]
          have htm : ∀ x ∈ (jn m A B pr).take j, x ∈ cur := fun x hx => by rw [← hcur]; exact mem_addsN.mpr (.inr hx)
          refine i_cut (fun σ H10 => ∃ bs, σ = [some (.ref p), some (.ref q), some (.str wd), some (.ref N), some (.ref O), some (.ref M), some (vn i), some (vn pr.1), some (vn pr.2), some (.ref R), some (vn j), some (.ref PT), none, none] ∧ Same H H10 ∧ NDict P w H10 N (mapN ((addN cur (na, nb)).map pk) (numD ((addN cur (na, nb)).map pk))) ∧
            H10 O = some (.lst (bs.map V.ref)) ∧ Prs H10 bs (addN cur (na, nb)) ∧ H10 M = some (.lst (ms.map V.ref)) ∧ Paired (fun a r => Ints (Old H) H10 a r) ms (((jAt m A B i).take i).map fun x => (jn m A B x).map (pl (jAt m A B i))) ∧
            H10 R = some (.lst ((((jn m A B pr).take j).map (pl cur)).map vn)) ∧ KeyAt H10 (pk (na, nb)) (.ref PT)) ?_ (fun σ H10 hz => ?_)
          · walk_at "go"
            refine r_nnotin n9 ky ?_
            walk_at "go"
            by_cases hin : (na, nb) ∈ cur
            · rw [lookN_in (pk_mem.mpr hin)]
              refine iteNT ?_
              walk_at "go"
              have e : addN cur (na, nb) = cur := if_pos hin
              exact ⟨bs, rfl, s9, by rw [e]; exact n9, hO9, by rw [e]; exact hPr9, hM9, hms9, hR9, ky⟩
            · have hnk : pk (na, nb) ∉ cur.map pk := fun z => hin (pk_mem.mp z)
              rw [lookN_no hnk]
              refine iteNF ?_
              walk_at "go"
              rw [List.length_map, hbl7]
              refine r_nput n9 ky (by rw [mapN_len, List.length_map]; omega) (fun o n10 => ?_)
              have e : addN cur (na, nb) = cur ++ [(na, nb)] := if_neg hin
              have n10 : NDict P w (upd H9 N o) N (putN (mapN (cur.map pk) (numD (cur.map pk))) (pk (na, nb)) (vn (cur.map pk).length)) := by
                rw [List.length_map]
                exact n10
              rw [numN_put hnk] at n10
              have hPTN : PT ≠ N := fun e => n9.nottup _ (by rw [← e]; exact hT9)
              have hPTO : PT ≠ O := fun e => by rw [e, hO9] at hT9; cases hT9
              walk_at "go"
              refine i_append (xs := bs.map V.ref) (by rw [upd_ne hNO.symm]; exact hO9) (by rw [List.length_map, hbl7]; omega) ?_
              walk_at "go"
              have hOt : ∀ vs, (upd H9 N o) O ≠ some (.tup vs) := fun vs => by
                rw [upd_ne hNO.symm, hO9]
                intro z
                cases z
              refine ⟨bs ++ [PT], rfl, Same.put (Same.put s9 hN) hOH, ?_, by rw [upd_same, List.map_append]; rfl, ?_, ?_, ?_, ?_, ?_⟩
              · rw [e, List.map_append]
                exact n10.upd hNO hOt
              · rw [e]
                refine U.Paired.snoc ((hPr9.upd n9.nottup).upd hOt) ?_
                rw [upd_ne hPTO, upd_ne hPTN]
                exact hT9
              · rw [upd_ne hOM.symm, upd_ne hNM.symm]
                exact hM9
              · refine Paired.mapM hms9 fun a r ha z => ⟨z.1, ?_⟩
                obtain ⟨t, ht⟩ := z.2
                exact ⟨t, by rw [upd_ne (hmsn a ha).1, upd_ne (hmsR a ha).2]; exact ht⟩
              · rw [upd_ne hRO, upd_ne hNR.symm]
                exact hR9
              · exact keyP (by rw [upd_ne hPTO, upd_ne hPTN]; exact hT9)
          · obtain ⟨bs, rfl, s10, n10, hO10, hPr10, hM10, hms10, hR10, ky10⟩ := hz
            walk_at "go"
            have hmem : (na, nb) ∈ addN cur (na, nb) := mem_addN.mpr (.inr rfl)
            refine r_nget n10 ky10 (lookN_in (pk_mem.mpr hmem)) ?_
            walk_at "go"
            have hvv : numD ((addN cur (na, nb)).map pk) (pk (na, nb)) = vn (pl (addN cur (na, nb)) (na, nb)) := by
              unfold numD
              rw [pl_map (fun _ _ z => pk_inj z)]
            rw [hvv]
            refine i_append hR10 (by rw [List.length_map, List.length_map, List.length_take]; omega) ?_
            walk_at "go"
            have hRt : ∀ vs, H10 R ≠ some (.tup vs) := fun vs => by
              rw [hR10]
              intro z
              cases z
            refine ⟨_, _, bs, rfl, Same.put s10 hRH, ?_, by rw [upd_ne hRO.symm]; exact hO10, ?_, by rw [upd_ne hRM.symm]; exact hM10, ?_, ?_⟩
            · rw [hcur2]
              exact n10.upd hNR hRt
            · rw [hcur2]
              exact hPr10.upd hRt
            · refine Paired.mapM hms10 fun a r ha z => ⟨z.1, ?_⟩
              obtain ⟨t, ht⟩ := z.2
              exact ⟨t, by rw [upd_ne (hmsR a ha).1]; exact ht⟩
            · rw [upd_same, hcur2, htk, List.map_append, List.map_append]
              have e : ((jn m A B pr).take j).map (pl (addN cur (na, nb))) = ((jn m A B pr).take j).map (pl cur) := List.map_congr_left fun x hx => pl_addN (htm x hx)
              rw [e]
              rfl
        · obtain ⟨y10, y11, bs, rfl, s7, n7, hO7, hPr7, hM7, hms7, hR7⟩ := hz
          rw [show (jn m A B pr).take m = jn m A B pr from List.take_of_length_le (by rw [jn_len]; exact Nat.le_refl _), ← hnext] at n7 hPr7 hR7
          walk_at "go"
          refine i_append hM7 (by rw [List.length_map, hms7.length, List.length_map, List.length_take]; omega) ?_
          walk_at "go"
          have hMt : ∀ vs, H7 M ≠ some (.tup vs) := fun vs => by
            rw [hM7]
            intro z
            cases z
          refine ⟨_, _, _, _, _, _, bs, ms ++ [R], rfl, Same.put s7 hMH, n7.upd hNM hMt, by rw [upd_ne hOM]; exact hO7, hPr7.upd hMt, by rw [upd_same, List.map_append]; rfl, ?_, fun a ha => ?_, fun q hq => ?_⟩
          · have hsub : (jAt m A B (i + 1)).take (i + 1) = (jAt m A B i).take i ++ [pr] := by
              obtain ⟨mm, e⟩ := g_pre (nx := jn m A B) (s := (0, 0)) i
              rw [show jAt m A B (i + 1) = jAt m A B i ++ mm from e, List.take_append_of_le_length (show i + 1 ≤ (jAt m A B i).length from hx'), take_at hpr1]
            rw [hsub, List.map_append]
            refine U.Paired.snoc ?_ ⟨Old.none hRH, false, by rw [upd_ne hRM]; exact hR7⟩
            rw [g_rows hok]
            refine Paired.mapM hms7 fun a r ha z => ⟨z.1, ?_⟩
            obtain ⟨t, ht⟩ := z.2
            exact ⟨t, by rw [upd_ne (hmsn a ha).2]; exact ht⟩
          · rcases List.mem_append.mp ha with e | e
            · exact hmsn a e
            · rw [List.mem_singleton.mp e]
              exact ⟨hRO, hRM⟩
          · by_cases e : q = i
            · rw [e]; exact hx'
            · exact hok q (by omega)
      · obtain ⟨x6, x7, x8, x9, x10, x11, bs, ms, rfl, s5, n5, hO5, hPr5, hM5, hms5, hmsn, hok⟩ := hz
        have hplen : (jAt m A B (A.length * B.length)).length ≤ A.length * B.length := pairs_len (g_nd (nx := jn m A B) (s := (0, 0)) _) (j_lt hwA.b hwB.b _)
        have hil : A.length * B.length ≤ (jAt m A B (A.length * B.length)).length := g_le hok
        exact ⟨_, _, _, _, _, _, _, bs, ms, rfl, s5, hO5, hPr5, hM5, hms5, ⟨Nat.le_antisymm hplen hil, hok⟩⟩
    · obtain ⟨i, x6, x7, x8, x9, x10, x11, bs, ms, rfl, s5, hO5, hPr5, hM5, hms5, hdone⟩ := hz
      have hbl := hPr5.length
      have hjl : (jAt m A B i).length = i := hdone.len
      have hi3 : i ≤ 3600 := by
        have hplen : (jAt m A B i).length ≤ A.length * B.length := pairs_len (g_nd (nx := jn m A B) (s := (0, 0)) i) (j_lt hwA.b hwB.b i)
        omega
      walk_at "go"
      refine seq_lc (t := false) hO5 (fun D hD => ⟨fun j H6 => ∃ c, c = bs.length ∧ j ≤ c ∧ H6 = upd H5 D (.lst (((jAt m A B i).take j).map fun x => .bl (dueF wd gA gB x))), ⟨_, rfl, Nat.zero_le _, rfl⟩, fun j H6 _ ⟨_, _, _, e⟩ => by rw [e, upd_ne (ne_of_none hO5 hD)]; exact hO5, fun j v H6 hv hz => ?_, fun H6 hz => ?_⟩)
      · obtain ⟨c, rfl, _, rfl⟩ := hz
        obtain ⟨b, hb, rfl⟩ := at_map hv
        obtain ⟨pr, hpr, hbt⟩ := Paired.at0 hPr5 hb
        have hjb := (List.getElem?_eq_some_iff.mp hb).1
        have hbD : b ≠ D := ne_of_none hbt hD
        have sD : Same H5 (upd H5 D (.lst (((jAt m A B i).take j).map fun x => .bl (dueF wd gA gB x)))) := same_laid hD
        obtain ⟨_, tg, hpg⟩ := id hp3
        obtain ⟨_, tg', hqg⟩ := id hq3
        walk_at "go"
        try (refine i_ixT (sD _ _ hbt) (i := 0) (v := vn pr.1) rfl ?_)
        walk_at "go"
        refine i_ixT (sD _ _ (s5 _ _ hp1)) (i := 1) (v := .ref pg) rfl ?_
        refine i_inI (sD _ _ (s5 _ _ hpg)) ?_
        walk_at "go"
        try (refine i_ixT (sD _ _ hbt) (i := 1) (v := vn pr.2) rfl ?_)
        walk_at "go"
        refine i_ixT (sD _ _ (s5 _ _ hq1)) (i := 1) (v := .ref qg) rfl ?_
        refine i_inI (sD _ _ (s5 _ _ hqg)) ?_
        walk_at "go"
        refine ⟨wd, _, _, rfl, hwd, ?_⟩
        exact ⟨_, upd_same, szlt (by rw [List.length_map, List.length_take]; omega), _, rfl, hjb, upd_lst (by rw [take_at hpr, List.map_append]; rfl)⟩
      · obtain ⟨c, rfl, _, rfl⟩ := hz
        have eb : (List.map V.ref bs).length = (jAt m A B i).length := by rw [List.length_map, hbl]
        have sD : Same H5 (upd H5 D (.lst (((jAt m A B i).take (List.map V.ref bs).length).map fun x => .bl (dueF wd gA gB x)))) := same_laid hD
        have hD6 : (upd H5 D (.lst (((jAt m A B i).take (List.map V.ref bs).length).map fun x => .bl (dueF wd gA gB x)))) D = some (.lst ((jAt m A B i).map fun x => .bl (dueF wd gA gB x))) := by rw [upd_same, eb, List.take_length]
        generalize upd H5 D (.lst (((jAt m A B i).take (List.map V.ref bs).length).map fun x => .bl (dueF wd gA gB x))) = H6 at *
        walk_at "go"
        refine i_lenL (sD _ _ hO5) ?_
        walk_at "go"
        rw [List.length_map, hbl, hjl]
        refine ⟨by omega, by omega, fun G hG => ?_⟩
        rw [Int.toNat_natCast]
        have hDG : D ≠ G := ne_of_none hD6 hG
        refine rng0_lc (fun q H' => q ≤ i ∧ H' = upd H6 G (.lst (((List.range q).filter fun r => dueF wd gA gB ((jAt m A B i).getD r (0, 0))).map vn))) ⟨Nat.zero_le _, rfl⟩ (fun q H' hq hz => ?_) (fun H' hz => ?_)
        · obtain ⟨_, rfl⟩ := hz
          have hat : (jAt m A B i)[q]? = some ((jAt m A B i).getD q (0, 0)) := by
            rw [List.getD_eq_getElem?_getD, List.getElem?_eq_getElem (by omega)]
            rfl
          walk_at "go"
          refine i_ixL (by rw [upd_ne hDG]; exact hD6) (atI_nat (map_at (f := fun x => V.bl (dueF wd gA gB x)) hat)) ?_
          walk_at "go"
          have hlq : (((List.range q).filter fun r => dueF wd gA gB ((jAt m A B i).getD r (0, 0))).map vn).length < 16777216 := by
            rw [List.length_map]
            have := List.length_filter_le (fun r => dueF wd gA gB ((jAt m A B i).getD r (0, 0))) (List.range q)
            rw [List.length_range] at this
            omega
          refine iteB (fun hb => ?_) (fun hb => ?_)
          · walk_at "go"
            exact ⟨_, upd_same, szlt hlq, hq, upd_lst (by rw [range_filter_t hb, List.map_append]; rfl)⟩
          · exact ⟨hq, by rw [range_filter_f hb]⟩
        · obtain ⟨_, rfl⟩ := hz
          walk_at "go"
          refine ⟨sz2, fun t ht => ?_⟩
          have sG : Same H6 (upd (upd H6 G (.lst (((List.range i).filter fun r => dueF wd gA gB ((jAt m A B i).getD r (0, 0))).map vn))) t (.tup [.ref M, .ref G])) := (same_laid hG).trans (same_laid ht)
          have s56 := sD.trans sG
          have hG0 : H G = none := same_free (s5.trans sD) hG
          refine k i t _ hdone (s5.trans s56) (same_free ((s5.trans sD).trans (same_laid hG)) ht) ⟨Old.none (same_free ((s5.trans sD).trans (same_laid hG)) ht), M, G, upd_same, ⟨Old.none hMH, false, ms, s56 _ _ hM5, ?_⟩, Old.none hG0, false, ?_⟩
          · have e : (jAt m A B i).take i = jAt m A B i := List.take_of_length_le (by omega)
            rw [e] at hms5
            exact Paired.mapP hms5 fun _ _ z => z.same s56
          · rw [upd_ne (ne_of_none upd_same ht), upd_same]
            unfold gGood
            rw [hjl]
            rfl
end
abbrev s_law_within : Stmt := top 42
theorem sc_law_within : FnScope ["alphabet", "told", "text"] ["alphabet", "told", "text"] (fnScope s_law_within) := ⟨rfl, rfl, rfl, by decide +kernel, rfl, by decide +kernel, by decide +kernel⟩
def sp_law_within : Sp := fun vs H Q _ => ∃ (Z : AS) (al : List Nat) (p : Addr) (rs : Rws) (gd w z : List Nat), vs = [.str (SX.S al), .ref p, .str (SX.S z)] ∧ Mach Z H p rs gd ∧ AlOk al ∧ WF al.length rs ∧ Word al w z ∧ Q (.bl (decide (run rs 0 w ∈ gd))) H
section
variable {P : Program} {w : World} {K : PySem.W.Frag} {mg : Str → Option Value} {base : Heap} {C : Addr} {r : Er}
set_option maxHeartbeats 4000000 in
theorem ok_law_within {f : Addr} {fd : FuncData} (F : Def K mg "_law_within" s_law_within f fd) (T : Txt K mg C r) (b : Binds K fd ["alphabet", "told", "text"] []) (c_law_room : Cal P w K mg base 1 "_law_room" sp_law_room []) : Cal P w K mg base 2 "_law_within" (sp_law_within) [] := by
  refine cal0 F b .nil sc_law_within (fun vs H Q E h => ?_) (fun cdv A outer s H vs Q E hr h => ?_)
  · obtain ⟨_, _, _, _, _, _, _, rfl, _⟩ := h
    rfl
  · obtain ⟨Z, al, p, rs, gd, w, z, rfl, hp, ha, hw, hz, k⟩ := h
    refine ⟨_, (pss_one (ps_ret (pe_cmpR (inK K rfl) (pe_c c_law_room hr (by decide) rfl (pa_cons (pv 0) (pa_cons (pe_ix (ixK K rfl) (pv 1) pe_int (fun _ _ => rfl)) (pa_cons (pv 2) pa_nil)))) (pe_ix (ixK K rfl) (pv 1) pe_int (fun _ _ => rfl)) rfl))), ?_⟩
    walk_at "go"
    obtain ⟨hpZ, pm, pg, hp1, hp2, hp3, tg, hp4⟩ := hp
    refine i_ixT hp1 (i := 0) (v := .ref pm) rfl ?_
    walk_at "go"
    refine ⟨Z, al, pm, rs, w, z, rfl, hp2, ha, hw, hz, ?_⟩
    walk_at "go"
    exact i_inI hp4 k
end
abbrev s_law_is_number : Stmt := top 45
theorem sc_law_is_number : FnScope ["thing", "low", "high"] ["thing", "low", "high"] (fnScope s_law_is_number) := ⟨rfl, rfl, rfl, by decide +kernel, rfl, by decide +kernel, by decide +kernel⟩
def sp_law_is_number : Sp := fun vs H Q _ => ∃ (i lo hi : Int), vs = [.int i, .int lo, .int hi] ∧ lo ≤ i ∧ i ≤ hi ∧ Q (.bl true) H
section
variable {P : Program} {w : World} {K : PySem.W.Frag} {mg : Str → Option Value} {base : Heap} {C : Addr} {r : Er}
set_option maxHeartbeats 4000000 in
theorem ok_law_is_number {f : Addr} {fd : FuncData} (F : Def K mg "_law_is_number" s_law_is_number f fd) (T : Txt K mg C r) (b : Binds K fd ["thing", "low", "high"] []) : Cal P w K mg base 1 "_law_is_number" (sp_law_is_number) [] := by
  refine cal0 F b .nil sc_law_is_number (fun vs H Q E h => ?_) (fun cdv A outer s H vs Q E hr h => ?_)
  · obtain ⟨_, _, _, rfl, _⟩ := h
    rfl
  · obtain ⟨i, lo, hi, rfl, h1, h2, k⟩ := h
    refine ⟨_, (pss_one (ps_ret (pe_and (pe_callB (isiK K rfl) (by rfl) T.b_isinstance (by decide +kernel) (pa_cons (pv 0) (pa_cons (pe_bltn (v := .ty "int") (u := .type "int") (by rfl) T.b_int (by decide +kernel) rfl) pa_nil))) (pe_and (pe_not (pe_callB (isiK K rfl) (by rfl) T.b_isinstance (by decide +kernel) (pa_cons (pv 0) (pa_cons (pe_bltn (v := .ty "bool") (u := .type "bool") (by rfl) T.b_bool (by decide +kernel) rfl) pa_nil)))) (pe_one (pe_chain op_le op_le (pv 1) (pv 0) (pv 2))))))), ?_⟩
    walk_at "go"
    refine i_isi (.base (.int i)) (r := true) (by decide +kernel) ?_
    walk_at "go"
    refine i_isi (.base (.int i)) (r := false) (by decide +kernel) ?_
    walk_at "go"
    refine ite_dt h1 ?_
    walk_at "go"
    rw [decide_eq_true h2]
    exact k
end
abbrev s_law_is_reader : Stmt := top 44
theorem sc_law_is_reader : FnScope ["reader", "alphabet", "size", "row", "room", "k"] ["reader", "alphabet"] (fnScope s_law_is_reader) := ⟨rfl, rfl, rfl, by decide +kernel, rfl, by decide +kernel, by decide +kernel⟩
def sp_law_is_reader (C : Addr) : Sp := fun vs H Q _ => ∃ (Z : AS) (p : Addr) (al : List Nat) (rs : Rws) (gd : List Nat), vs = [.ref p, .str (SX.S al)] ∧ Rd C Z H p al rs gd ∧ AlOk al ∧ WF al.length rs ∧ GOK rs.length gd ∧ ∀ H', Same H H' → Q (.bl true) H'
section
variable {P : Program} {w : World} {K : PySem.W.Frag} {mg : Str → Option Value} {base : Heap} {C : Addr} {r : Er}
set_option maxHeartbeats 4000000 in
theorem ok_law_is_reader {f : Addr} {fd : FuncData} (F : Def K mg "_law_is_reader" s_law_is_reader f fd) (T : Txt K mg C r) (b : Binds K fd ["reader", "alphabet"] []) (c_law_is_number : Cal P w K mg base 1 "_law_is_number" sp_law_is_number []) : Cal P w K mg base 2 "_law_is_reader" (sp_law_is_reader C) [] := by
  refine cal0 F b .nil sc_law_is_reader (fun vs H Q E h => ?_) (fun cdv A outer s H vs Q E hr h => ?_)
  · obtain ⟨_, _, _, _, _, rfl, _⟩ := h
    rfl
  · obtain ⟨Z, p, al, rs, gd, rfl, hp, ha, hw, hg, k⟩ := h
    refine ⟨_, (pss_cons (ps_if (PW.pt (pw_or (pt_not (pt_val (pe_callB (call_isC T.ins) (by rfl) T.b_isinstance (by decide +kernel) (pa_cons (pv 0) (pa_cons (pe_gc (v := .ref C) rfl ⟨_, T.mg_Reader, rfl⟩) pa_nil))))) (pw_or (pt_cmpR op_ne (fldK K rfl (pv 0) rfl) (pv 1) (nomark _)) (pw_or1 (pt_not (pt_val (pe_callB (isiK K rfl) (by rfl) T.b_isinstance (by decide +kernel) (pa_cons (fldK K rfl (pv 0) rfl) (pa_cons (pe_bltn (v := .ty "tuple") (u := .type "tuple") (by rfl) T.b_tuple (by decide +kernel) rfl) pa_nil))))))))) (pss_one (ps_ret pe_bl)) pss_nil)
        (pss_cons (ps_set (i := 2) sc_law_is_reader.nd rfl (by first | exact Or.inl rfl | exact Or.inr rfl) (pe_callB (lenK K rfl) (by rfl) T.b_len (by decide +kernel) (pa_cons (fldK K rfl (pv 0) rfl) pa_nil)))
        (pss_cons (ps_if (PW.pt (pw_or (pt_cmpR op_eq (pv 2) pe_int (nomark _)) (pw_or1 (pt_not (pt_val (pe_callB (isiK K rfl) (by rfl) T.b_isinstance (by decide +kernel) (pa_cons (fldK K rfl (pv 0) rfl) (pa_cons (pe_bltn (v := .ty "tuple") (u := .type "tuple") (by rfl) T.b_tuple (by decide +kernel) rfl) pa_nil)))))))) (pss_one (ps_ret pe_bl)) pss_nil)
        (pss_cons (ps_for PassesOwn.never rfl (seqK K rfl (fldK K rfl (pv 0) rfl)) (pg_name (i := 3) sc_law_is_reader.nd rfl (by first | exact Or.inl rfl | exact Or.inr rfl))
        (pss_cons (ps_if (PW.pt (pw_or (pt_not (pt_val (pe_callB (isiK K rfl) (by rfl) T.b_isinstance (by decide +kernel) (pa_cons (pv 3) (pa_cons (pe_bltn (v := .ty "tuple") (u := .type "tuple") (by rfl) T.b_tuple (by decide +kernel) rfl) pa_nil))))) (pw_or1 (pt_cmpR op_ne (pe_callB (lenK K rfl) (by rfl) T.b_len (by decide +kernel) (pa_cons (pv 3) pa_nil)) (pe_callB (lenK K rfl) (by rfl) T.b_len (by decide +kernel) (pa_cons (pv 1) pa_nil)) (nomark _))))) (pss_one (ps_ret pe_bl)) pss_nil)
        (pss_one (ps_if (pt_not (pt_val (pe_callB (allK K rfl rfl) (by rfl) T.b_all (by decide +kernel) (pa_cons (pe_lc (own := [("room", 4)]) rfl sc_law_is_reader.nd (seqK K rfl (pv 3)) (blkOk_by (by kernel_rfl)) (fun _ _ _ _ _ => (pg_name (i := 4) sc_law_is_reader.nd rfl (by first | exact Or.inl rfl | exact Or.inr rfl))) (fun _ _ _ _ _ => pts_nil) (fun _ _ _ _ _ => (pe_c c_law_is_number hr (by decide) rfl (pa_cons (pv 4) (pa_cons pe_int (pa_cons (pe_op op_sub (pv 2) pe_int) pa_nil)))))) pa_nil)))) (pss_one (ps_ret pe_bl)) pss_nil))))
        (pss_cons (ps_if (pt_not (pt_val (pe_callB (allK K rfl rfl) (by rfl) T.b_all (by decide +kernel) (pa_cons (pe_lc (own := [("room", 4)]) rfl sc_law_is_reader.nd (seqK K rfl (fldK K rfl (pv 0) rfl)) (blkOk_by (by kernel_rfl)) (fun _ _ _ _ _ => (pg_name (i := 4) sc_law_is_reader.nd rfl (by first | exact Or.inl rfl | exact Or.inr rfl))) (fun _ _ _ _ _ => pts_nil) (fun _ _ _ _ _ => (pe_c c_law_is_number hr (by decide) rfl (pa_cons (pv 4) (pa_cons pe_int (pa_cons (pe_op op_sub (pv 2) pe_int) pa_nil)))))) pa_nil)))) (pss_one (ps_ret pe_bl)) pss_nil)
        (pss_one (ps_ret (pe_callB (allK K rfl rfl) (by rfl) T.b_all (by decide +kernel) (pa_cons (pe_lc (own := [("k", 5)]) rfl sc_law_is_reader.nd (pi_range1 (by rfl) T.b_range (pa_cons (pe_op op_sub (pe_callB (lenK K rfl) (by rfl) T.b_len (by decide +kernel) (pa_cons (fldK K rfl (pv 0) rfl) pa_nil)) pe_int) pa_nil)) (blkOk_by (by kernel_rfl)) (fun _ _ _ _ _ => (pg_name (i := 5) sc_law_is_reader.nd rfl (by first | exact Or.inl rfl | exact Or.inr rfl))) (fun _ _ _ _ _ => pts_nil) (fun _ _ _ _ _ => (pe_cmpR op_lt (pe_ix (ixK K rfl) (fldK K rfl (pv 0) rfl) (pv 5) (fun _ _ => rfl)) (pe_ix (ixK K rfl) (fldK K rfl (pv 0) rfl) (pe_op op_add (pv 5) pe_int) (fun _ _ => rfl)) (nomark _)))) pa_nil))))))))), ?_⟩
    walk_at "go"
    obtain ⟨hpZ, dx, pm, pg, hp1, hp2, hp3⟩ := hp
    obtain ⟨_, as, hp4, hp5⟩ := id hp2
    have hlen : (as.map V.ref).length = rs.length := by rw [List.length_map, hp5.length]
    have hle := hw.le
    have hpos := hw.pos
    have ha3 := ha.le
    have hl : (SX.S al).length = al.length := SX.S_len al
    refine ⟨p, dx, _, rfl, hp1, ?_⟩
    walk_at "go"
    refine i_fldR hp1 T.cl T.nA (flds_al al pm pg) ?_
    walk_at "go"
    refine ite_ndf rfl ?_
    walk_at "go"
    refine i_fldR hp1 T.cl T.nM (flds_mo al pm pg) ?_
    walk_at "go"
    refine i_isi (a := "tuple") (r := true) (.base (.tup hp4)) (by decide +kernel) ?_
    walk_at "go"
    refine i_fldR hp1 T.cl T.nM (flds_mo al pm pg) ?_
    walk_at "go"
    rw [hlen]
    refine ite_df (by omega) ?_
    walk_at "go"
    refine i_fldR hp1 T.cl T.nG (flds_go al pm pg) ?_
    walk_at "go"
    refine i_isi (a := "tuple") (r := true) (.base (.tup hp3.2)) (by decide +kernel) ?_
    walk_at "go"
    refine i_fldR hp1 T.cl T.nM (flds_mo al pm pg) ?_
    refine seq_for (t := true) hp4 (fun i σ H' => ∃ x4 : Option V, σ = [some (.ref p), some (.str (SX.S al)), some (vn rs.length), x4, none, none] ∧ Same H H') ⟨none, rfl, Same.refl H⟩ (fun i σ H' _ ⟨_, _, e⟩ => e _ _ hp4) (fun i v σ H' hv hq => ?_) (fun σ H' hq => ?_)
    · obtain ⟨x4, rfl, s1⟩ := hq
      obtain ⟨a, hva, rfl⟩ := at_map hv
      obtain ⟨rw', hrw, hia⟩ := Paired.at0 hp5 hva
      have hmem : rw' ∈ rs := List.mem_of_getElem? hrw
      have ha1 := s1 _ _ hia.2
      have hwid := hw.wid _ hmem
      walk_at "go"
      refine i_isi (a := "tuple") (r := true) (.base (.tup ha1)) (by decide +kernel) ?_
      walk_at "go"
      refine i_lenS (szl (by omega)) ?_
      walk_at "go"
      rw [List.length_map]
      refine ite_ndf (by omega) ?_
      walk_at "go"
      refine seq_lc (t := true) ha1 (fun D hD => ⟨fun j H3 => j ≤ rw'.length ∧ H3 = upd H' D (.lst (List.replicate j (.bl true))), ⟨Nat.zero_le _, rfl⟩, fun j H3 _ ⟨_, e⟩ => by rw [e, upd_ne (ne_of_none ha1 hD)]; exact ha1, fun j v H3 hvj hp3 => ?_, fun H3 hp3 => ?_⟩)
      · obtain ⟨_, rfl⟩ := hp3
        obtain ⟨u, hu, rfl⟩ := at_map hvj
        have hlt : u < rs.length := hw.lt _ hmem u (List.mem_of_getElem? hu)
        have hj : j < rw'.length := (List.getElem?_eq_some_iff.mp hu).1
        walk_at "go"
        exact ⟨u, 0, _, rfl, by omega, by omega, _, upd_same, szlt (by rw [List.length_replicate]; omega), hj, upd_lst (rep_snoc j (V.bl true))⟩
      · obtain ⟨_, rfl⟩ := hp3
        walk_at "go"
        refine i_all (bs := List.replicate _ true) (by rw [upd_same, map_rep]) (all_rep _) ?_
        walk_at "go"
        exact ⟨_, rfl, s1.trans (same_laid hD)⟩
    · obtain ⟨x4, rfl, s1⟩ := hq
      have hg1 := s1 _ _ hp3.2
      walk_at "go"
      refine i_fldR (s1 _ _ hp1) T.cl T.nG (flds_go al pm pg) ?_
      refine seq_lc (t := true) hg1 (fun D hD => ⟨fun j H3 => j ≤ gd.length ∧ H3 = upd H' D (.lst (List.replicate j (.bl true))), ⟨Nat.zero_le _, rfl⟩, fun j H3 _ ⟨_, e⟩ => by rw [e, upd_ne (ne_of_none hg1 hD)]; exact hg1, fun j v H3 hvj hp3 => ?_, fun H3 hp3 => ?_⟩)
      · obtain ⟨_, rfl⟩ := hp3
        obtain ⟨u, hu, rfl⟩ := at_map hvj
        have hlt : u < rs.length := hg.lt u (List.mem_of_getElem? hu)
        have hj : j < gd.length := (List.getElem?_eq_some_iff.mp hu).1
        have hgl : gd.length ≤ rs.length := nodup_le (hg.inc.imp fun z => Nat.ne_of_lt z) hg.lt
        walk_at "go"
        exact ⟨u, 0, _, rfl, by omega, by omega, _, upd_same, szlt (by rw [List.length_replicate]; omega), hj, upd_lst (rep_snoc j (V.bl true))⟩
      · obtain ⟨_, rfl⟩ := hp3
        have hgl : gd.length ≤ rs.length := nodup_le (hg.inc.imp fun z => Nat.ne_of_lt z) hg.lt
        walk_at "go"
        refine i_all (bs := List.replicate _ true) (by rw [upd_same, map_rep]) (all_rep _) ?_
        walk_at "go"
        have hp1' := s1 _ _ hp1
        have hg1' := s1 _ _ hp3.2
        have hgD : (upd H' D (.lst (List.replicate (gd.map vn).length (.bl true)))) pg = some (.tup (gd.map vn)) := by rw [upd_ne (ne_of_none hg1' hD)]; exact hg1'
        have hpD : (upd H' D (.lst (List.replicate (gd.map vn).length (.bl true)))) p = some (.ins C dx (flds al pm pg)) := by rw [upd_ne (ne_of_none hp1' hD)]; exact hp1'
        refine i_fldR hpD T.cl T.nG (flds_go al pm pg) ?_
        walk_at "go"
        rw [List.length_map] at hgD hpD ⊢
        refine ⟨by omega, by omega, fun E hE => ?_⟩
        refine rng0_lc (fun i H3 => i ≤ gd.length ∧ H3 = upd (upd H' D (.lst (List.replicate gd.length (.bl true)))) E (.lst (List.replicate i (.bl true)))) ⟨Nat.zero_le _, rfl⟩ (fun i H3 hi hq => ?_) (fun H3 hq => ?_)
        · obtain ⟨_, rfl⟩ := hq
          have hi2 : i + 1 < gd.length := by omega
          walk_at "go"
          refine i_fldR (by rw [upd_ne (ne_of_none hpD hE)]; exact hpD) T.cl T.nG (flds_go al pm pg) ?_
          walk_at "go"
          refine i_ixT (by rw [upd_ne (ne_of_none hgD hE)]; exact hgD) (vn_at (List.getElem?_eq_getElem (by omega : i < gd.length))) ?_
          walk_at "go"
          refine i_fldR (by rw [upd_ne (ne_of_none hpD hE)]; exact hpD) T.cl T.nG (flds_go al pm pg) ?_
          walk_at "go"
          refine i_ixT (by rw [upd_ne (ne_of_none hgD hE)]; exact hgD) (v := vn (gd[i + 1]'hi2)) (by exact vn_at (List.getElem?_eq_getElem hi2)) ?_
          walk_at "go"
          have hlt2 : gd[i]'(by omega) < gd[i + 1]'hi2 := List.pairwise_iff_getElem.mp hg.inc i (i + 1) _ _ (by omega)
          refine ⟨_, upd_same, szlt (by rw [List.length_replicate]; omega), by omega, upd_lst ?_⟩
          rw [decide_eq_true (by omega)]
          exact rep_snoc i (V.bl true)
        · obtain ⟨_, rfl⟩ := hq
          walk_at "go"
          exact i_all (bs := List.replicate _ true) (by rw [upd_same, map_rep]) (all_rep _) (k _ (((s1.trans (same_laid hD))).trans (same_laid hE)))
end
abbrev s_law_stays : Stmt := top 59
theorem sc_law_stays : FnScope ["alphabet", "machine", "reader", "row"] ["alphabet", "machine", "reader"] (fnScope s_law_stays) := ⟨rfl, rfl, rfl, by decide +kernel, rfl, by decide +kernel, by decide +kernel⟩
def sp_law_stays (C : Addr) : Sp := fun vs H Q _ => ∃ (Z : AS) (al : List Nat) (q p : Addr) (rs : Rws) (gd : List Nat), vs = [.str (SX.S al), .ref q, .ref p] ∧ Mach Z H q rs gd ∧ Rd C Z H p al rs gd ∧ AlOk al ∧ WF al.length rs ∧ GOK rs.length gd ∧ ∀ H', Same H H' → Q (.bl true) H'
section
variable {P : Program} {w : World} {K : PySem.W.Frag} {mg : Str → Option Value} {base : Heap} {C : Addr} {r : Er}
set_option maxHeartbeats 4000000 in
theorem ok_law_stays {f : Addr} {fd : FuncData} (F : Def K mg "_law_stays" s_law_stays f fd) (T : Txt K mg C r) (b : Binds K fd ["alphabet", "machine", "reader"] []) (c_law_is_reader : Cal P w K mg base 2 "_law_is_reader" (sp_law_is_reader C) []) : Cal P w K mg base 3 "_law_stays" (sp_law_stays C) [] := by
  refine cal0 F b .nil sc_law_stays (fun vs H Q E h => ?_) (fun cdv A outer s H vs Q E hr h => ?_)
  · obtain ⟨_, _, _, _, _, _, rfl, _⟩ := h
    rfl
  · obtain ⟨Z, al, q, p, rs, gd, rfl, hq, hp, ha, hw, hg, k⟩ := h
    refine ⟨_, (pss_cons (ps_if (pt_not (pt_val (pe_c c_law_is_reader hr (by decide) rfl (pa_cons (pv 2) (pa_cons (pv 0) pa_nil))))) (pss_one (ps_ret pe_bl)) pss_nil)
        (pss_one (ps_ret (pe_and (pe_cmpR (eqDK K rfl hr.units) (fldK K rfl (pv 2) rfl) (pe_callTy (tupleK K rfl) (by rfl) T.b_tuple (by decide +kernel) (pa_cons (pe_lc (own := [("row", 3)]) rfl sc_law_stays.nd (seqK K rfl (pe_ix (ixK K rfl) (pv 1) pe_int (fun _ _ => rfl))) (blkOk_by (by kernel_rfl)) (fun _ _ _ _ _ => (pg_name (i := 3) sc_law_stays.nd rfl (by first | exact Or.inl rfl | exact Or.inr rfl))) (fun _ _ _ _ _ => pts_nil) (fun _ _ _ _ _ => (pe_callTy (tupleK K rfl) (by rfl) T.b_tuple (by decide +kernel) (pa_cons (pv 3) pa_nil)))) pa_nil)) (nomark _)) (pe_one (pe_cmpR (eqDK K rfl hr.units) (fldK K rfl (pv 2) rfl) (pe_callTy (tupleK K rfl) (by rfl) T.b_tuple (by decide +kernel) (pa_cons (pe_ix (ixK K rfl) (pv 1) pe_int (fun _ _ => rfl)) pa_nil)) (nomark _))))))), ?_⟩
    walk_at "go"
    have hp0 := hp
    obtain ⟨hpZ, dx, pm, pg, hp1, hp2, hp3⟩ := hp
    obtain ⟨hqZ, qm, qg, hq1, hq2, hq3⟩ := hq
    obtain ⟨_, tq, as, hq4, hq5⟩ := id hq2
    obtain ⟨_, tg, hq6⟩ := id hq3
    have hlen : (as.map V.ref).length = rs.length := by rw [List.length_map, hq5.length]
    have hle := hw.le
    refine ⟨Z, p, al, rs, gd, rfl, hp0, ha, hw, hg, fun H1 s1 => ?_⟩
    walk_at "go"
    refine i_fldR (s1 _ _ hp1) T.cl T.nM (flds_mo al pm pg) ?_
    walk_at "go"
    refine i_ixT (s1 _ _ hq1) (i := 0) (v := .ref qm) rfl ?_
    refine seq_lc (s1 _ _ hq4) (fun D hD => ⟨fun j H3 => Same H1 H3 ∧ ∃ bs, H3 D = some (.lst (bs.map V.ref)) ∧ Paired (fun a r => IntsT (fun _ => False) H3 a r) bs (rs.take j), ⟨same_laid hD, [], upd_same, by simp; exact .nil⟩, fun j H3 _ ⟨e, _⟩ => e _ _ (s1 _ _ hq4), fun j v H3 hvj hp3' => ?_, fun H3 hp3' => ?_⟩)
    · obtain ⟨s3, bs, hD3, hbs⟩ := hp3'
      obtain ⟨a, hva, rfl⟩ := at_map hvj
      obtain ⟨rw', hrw, hia1, ti, hia2⟩ := Paired.at0 hq5 hva
      have hj : j < rs.length := (List.getElem?_eq_some_iff.mp hrw).1
      walk_at "go"
      refine i_tupleOf (s3 _ _ (s1 _ _ hia2)) (fun l H4 h1 h2 h3 => ?_)
      have hDl : l ≠ D := fun e => by
        rcases h3 with h3 | ⟨h3, _⟩
        · rw [e, hD3] at h3; cases h3
        · rw [← e, h3, s1 _ _ hia2] at hD; cases hD
      refine ⟨_, h2 _ _ hD3, szlt (by rw [List.length_map, hbs.length, List.length_take]; omega), Same.put (s3.trans h2) hD, bs ++ [l], by rw [upd_same, List.map_append]; rfl, ?_⟩
      rw [take_at hrw]
      have hk : Kp (fun b => b = D) H3 (upd H4 D (.lst (bs.map V.ref ++ [V.ref l]))) := fun b o n e => by
        rw [upd_ne n]
        exact h2 _ _ e
      refine U.Paired.snoc (Paired.mapP hbs fun b r z => ⟨z.1, ?_⟩) ⟨fun z => z, by rw [upd_ne hDl]; exact h1⟩
      refine hk _ _ (fun e => ?_) z.2
      have := z.2
      rw [e, hD3] at this
      cases this
    · obtain ⟨s3, bs, hD3, hbs⟩ := hp3'
      rw [hlen, List.take_length] at hbs
      walk_at "go"
      refine i_tupleOfL hD3 (fun l hl4 => ?_)
      have s4 : Same H1 (upd H3 l (.tup (bs.map V.ref))) := s3.trans (same_laid hl4)
      have s04 := s1.trans s4
      have hrl : RowsT (fun _ => False) (upd H3 l (.tup (bs.map V.ref))) l rs := ⟨fun z => z, bs, upd_same, Paired.mapP hbs fun b r z => z.same (same_laid hl4)⟩
      refine i_eqRows (hp2.same s04) hrl ?_
      walk_at "go"
      refine ite_dt rfl ?_
      walk_at "go"
      refine i_fldR (s04 _ _ hp1) T.cl T.nG (flds_go al pm pg) ?_
      walk_at "go"
      refine i_ixT (s04 _ _ hq1) (i := 1) (v := .ref qg) rfl ?_
      walk_at "go"
      refine i_tupleOf (s04 _ _ hq6) (fun l2 H5 h1 h2 h3 => ?_)
      have hgl : IntsT (fun _ => False) H5 l2 gd := ⟨fun z => z, h1⟩
      refine i_eqInts ((hp3.same s04).same h2) hgl ?_
      rw [decide_eq_true rfl]
      exact k _ (s04.trans h2)
end
abbrev s_law_in_order : Stmt := top 47
theorem sc_law_in_order : FnScope ["moves", "order", "at", "target", "p"] ["moves"] (fnScope s_law_in_order) := ⟨rfl, rfl, rfl, by decide +kernel, rfl, by decide +kernel, by decide +kernel⟩
def sp_law_in_order : Sp := fun vs H Q _ => ∃ (Z : AS) (p : Addr) (rs : Rws) (m : Nat), vs = [.ref p] ∧ RowsT Z H p rs ∧ WF m rs ∧ scanAt rs rs.length = List.range rs.length ∧ ∀ H', Same H H' → Q (.bl true) H'
section
variable {P : Program} {w : World} {K : PySem.W.Frag} {mg : Str → Option Value} {base : Heap} {C : Addr} {r : Er}
set_option maxHeartbeats 4000000 in
theorem ok_law_in_order {f : Addr} {fd : FuncData} (F : Def K mg "_law_in_order" s_law_in_order f fd) (T : Txt K mg C r) (b : Binds K fd ["moves"] []) : Cal P w K mg base 1 "_law_in_order" (sp_law_in_order) [] := by
  refine cal0 F b .nil sc_law_in_order (fun vs H Q E h => ?_) (fun cdv A outer s H vs Q E hr h => ?_)
  · obtain ⟨_, _, _, _, rfl, _⟩ := h
    rfl
  · obtain ⟨Z, p, rs, m, rfl, hp, hw, ho, k⟩ := h
    refine ⟨_, (pss_cons (ps_set (i := 1) sc_law_in_order.nd rfl (by first | exact Or.inl rfl | exact Or.inr rfl) (pe_lst (pa_cons pe_int pa_nil)))
        (pss_cons (ps_for PassesOwn.never rfl (pi_range1 (by rfl) T.b_range (pa_cons (pe_callB (lenK K rfl) (by rfl) T.b_len (by decide +kernel) (pa_cons (pv 0) pa_nil)) pa_nil)) (pg_name (i := 2) sc_law_in_order.nd rfl (by first | exact Or.inl rfl | exact Or.inr rfl))
        (pss_one (ps_if (pt_cmpR op_lt (pv 2) (pe_callB (lenK K rfl) (by rfl) T.b_len (by decide +kernel) (pa_cons (pv 1) pa_nil)) (nomark _)) (pss_one (ps_for PassesOwn.never rfl (seqK K rfl (pe_ix (ixK K rfl) (pv 0) (pe_ix (ixK K rfl) (pv 1) (pv 2) (fun _ _ => rfl)) (fun _ _ => rfl))) (pg_name (i := 3) sc_law_in_order.nd rfl (by first | exact Or.inl rfl | exact Or.inr rfl))
        (pss_one (ps_if (pt_cmpR (notInK K rfl) (pv 3) (pv 1) rfl) (pss_one (ps_expr (bmK K rfl (pe_bm PySem.F.plainAttrs_list PySem.F.slot_list_append PySem.F.type_list_append mt_append (pv 1) (pa_cons (pv 3) pa_nil))))) pss_nil)))) pss_nil)))
        (pss_one (ps_ret (pe_cmpR (eqDK K rfl hr.units) (pv 1) (pe_lc (own := [("p", 4)]) rfl sc_law_in_order.nd (pi_range1 (by rfl) T.b_range (pa_cons (pe_callB (lenK K rfl) (by rfl) T.b_len (by decide +kernel) (pa_cons (pv 0) pa_nil)) pa_nil)) (blkOk_by (by kernel_rfl)) (fun _ _ _ _ _ => (pg_name (i := 4) sc_law_in_order.nd rfl (by first | exact Or.inl rfl | exact Or.inr rfl))) (fun _ _ _ _ _ => pts_nil) (fun _ _ _ _ _ => (pv 4))) (nomark _)))))), ?_⟩
    walk_at "go"
    obtain ⟨_, as, hp2, hp3⟩ := id hp
    have hlen : (as.map V.ref).length = rs.length := by rw [List.length_map, hp3.length]
    have hle := hw.le
    refine ⟨sz1, fun O hO => ?_⟩
    walk_at "go"
    have hpO : ∀ o, upd H O (.lst o) p = some (.tup (as.map V.ref)) := fun o => by rw [upd_ne (ne_of_none hp2 hO)]; exact hp2
    refine i_lenT (hpO _) ?_
    walk_at "go"
    refine ⟨by omega, by omega, ?_⟩
    rw [Int.toNat_natCast, hlen]
    refine rng0_for (fun i σ H' => ∃ x2 x3, σ = [some (.ref p), some (.ref O), x2, x3, none] ∧ H' = upd H O (.lst ((scanAt rs i).map vn))) ⟨none, none, rfl, rfl⟩ (fun i σ H' hi hq => ?_) (fun σ H' hq => ?_)
    · obtain ⟨x2, x3, rfl, rfl⟩ := hq
      have hsl := hw.scan_len i
      walk_at "go"
      rw [List.length_map]
      refine iteD (fun hx => ?_) (fun hx => ?_)
      · have hx' : i < (scanAt rs i).length := by
          have : (i : Int) < ((scanAt rs i).length : Int) := hx
          omega
        obtain ⟨r, hr1⟩ : ∃ r, (scanAt rs i)[i]? = some r := ⟨_, List.getElem?_eq_getElem hx'⟩
        have hr2 : r < rs.length := hw.scan_lt i r (List.mem_of_getElem? hr1)
        have hrow : (scanAt rs (i + 1)) = addsN (scanAt rs i) (row rs r) := by
          show addsN (scanAt rs i) (row rs ((scanAt rs i).getD i 0)) = _
          rw [List.getD_eq_getElem?_getD, hr1]
          rfl
        obtain ⟨vs, a, ha, hvl, hva, hia, hi2⟩ := hp.at hr2
        have haO : ∀ o, upd H O (.lst o) a = some (.tup ((row rs r).map vn)) := fun o => by rw [upd_ne (ne_of_none hi2 hO)]; exact hi2
        walk_at "go"
        refine i_ixL upd_same (vn_at hr1) ?_
        walk_at "go"
        refine i_ixT (by rw [upd_ne (ne_of_none ha hO)]; exact ha) hva ?_
        refine seq_for (t := true) (haO _) (fun j σ H' => ∃ x, σ = [some (.ref p), some (.ref O), some (vn i), x, none] ∧ H' = upd H O (.lst ((addsN (scanAt rs i) ((row rs r).take j)).map vn))) ⟨x3, rfl, by simp [addsN_nil]⟩ (fun j σ H' _ ⟨_, _, e⟩ => by rw [e]; exact haO _) (fun j v σ H' hv hp' => ?_) (fun σ H' hp' => ?_)
        · obtain ⟨y, rfl, rfl⟩ := hp'
          obtain ⟨u, hu, rfl⟩ := at_map hv
          have hlen : (addsN (scanAt rs i) ((row rs r).take j)).length ≤ rs.length := by
            refine nodup_le (nd_addsN (scan_nd rs i)) fun z hz => ?_
            rcases mem_addsN.mp hz with hz | hz
            · exact hw.scan_lt i z hz
            · exact hw.row_lt hr2 (List.mem_of_mem_take hz)
          walk_at "go"
          refine i_notInI (t := false) upd_same ?_
          walk_at "go"
          by_cases hin : u ∈ addsN (scanAt rs i) ((row rs r).take j)
          · refine ite_ndf hin ?_
            walk_at "go"
            exact ⟨_, rfl, by rw [take_at hu, addsN_snoc, addN, if_pos hin]⟩
          · refine ite_ndt hin ?_
            walk_at "go"
            refine i_append upd_same (by rw [List.length_map]; omega) ?_
            walk_at "go"
            exact ⟨_, rfl, upd_lst (by rw [take_at hu, addsN_snoc, addN, if_neg hin, List.map_append]; rfl)⟩
        · obtain ⟨y, rfl, rfl⟩ := hp'
          rw [List.length_map, List.take_length, ← hrow]
          exact ⟨_, _, rfl, rfl⟩
      · walk_at "go"
        have hx' : (scanAt rs i).length ≤ i := by
          have : ¬ (i : Int) < ((scanAt rs i).length : Int) := hx
          omega
        exact ⟨_, _, rfl, by rw [scan_stuck hx']⟩
    · obtain ⟨x2, x3, rfl, rfl⟩ := hq
      walk_at "go"
      refine i_lenT (hpO _) ?_
      walk_at "go"
      refine ⟨by omega, by omega, fun D hD => ?_⟩
      rw [Int.toNat_natCast, hlen]
      refine rng0_lc (fun q H' => q ≤ rs.length ∧ H' = upd (upd H O (.lst ((scanAt rs rs.length).map vn))) D (.lst ((List.range q).map vn))) ⟨Nat.zero_le _, rfl⟩ (fun q H' hi hq => ?_) (fun H' hq => ?_)
      · obtain ⟨_, rfl⟩ := hq
        walk_at "go"
        exact ⟨_, upd_same, szlt (by rw [List.length_map, List.length_range]; omega), hi, upd_lst (by rw [List.range_succ, List.map_append]; rfl)⟩
      · obtain ⟨_, rfl⟩ := hq
        walk_at "go"
        refine i_eqIntsL (by rw [upd_ne (ne_of_none upd_same hD), upd_same]) upd_same ?_
        rw [decide_eq_true ho]
        exact k _ ((same_laid hO).trans (same_laid hD))
end
abbrev s_law_changed : Stmt := top 54
theorem sc_law_changed : FnScope ["source", "told", "size", "at", "moves", "row", "p"] ["source", "told"] (fnScope s_law_changed) := ⟨rfl, rfl, rfl, by decide +kernel, rfl, by decide +kernel, by decide +kernel⟩
def sp_law_changed : Sp := fun vs H Q _ => ∃ (S : AS) (a p : Addr) (rs : Rws) (gd : List Nat) (m : Nat), vs = [.ref a, .ref p] ∧ S a ∧ Srcs S H ∧ Mach S H p rs gd ∧ 0 < m ∧ WF m rs ∧ GOK rs.length gd ∧ ∀ q rs' gd' H', Ev S H H' → Mach S H' q rs' gd' → WF m rs' → GOK rs'.length gd' → rs'.length = rs.length → Q (.ref q) H'
section
variable {P : Program} {w : World} {K : PySem.W.Frag} {mg : Str → Option Value} {base : Heap} {C : Addr} {r : Er}
set_option maxHeartbeats 4000000 in
theorem ok_law_changed {f : Addr} {fd : FuncData} (F : Def K mg "_law_changed" s_law_changed f fd) (T : Txt K mg C r) (b : Binds K fd ["source", "told"] []) (c_law_pick : Cal P w K mg base 1 "_law_pick" sp_law_pick []) : Cal P w K mg base 2 "_law_changed" (sp_law_changed) [] := by
  refine cal0 F b .nil sc_law_changed (fun vs H Q E h => ?_) (fun cdv A outer s H vs Q E hr h => ?_)
  · obtain ⟨_, _, _, _, _, _, rfl, _⟩ := h
    rfl
  · obtain ⟨S, a, p, rs, gd, m, rfl, ha, hS, hp, hm0, hw, hg, k⟩ := h
    refine ⟨_, (pss_cons (ps_set (i := 2) sc_law_changed.nd rfl (by first | exact Or.inl rfl | exact Or.inr rfl) (pe_callB (lenK K rfl) (by rfl) T.b_len (by decide +kernel) (pa_cons (pe_ix (ixK K rfl) (pv 1) pe_int (fun _ _ => rfl)) pa_nil)))
        (pss_cons (ps_set (i := 3) sc_law_changed.nd rfl (by first | exact Or.inl rfl | exact Or.inr rfl) (pe_c c_law_pick hr (by decide) rfl (pa_cons (pv 0) (pa_cons (pv 2) pa_nil))))
        (pss_cons (ps_if (pt_cmpR op_eq (pe_c c_law_pick hr (by decide) rfl (pa_cons (pv 0) (pa_cons pe_int pa_nil))) pe_int (nomark _)) (pss_one (ps_ret (pe_tup (pa_cons (pe_ix (ixK K rfl) (pv 1) pe_int (fun _ _ => rfl)) (pa_cons (pe_lc (own := [("p", 6)]) rfl sc_law_changed.nd (pi_range1 (by rfl) T.b_range (pa_cons (pv 2) pa_nil)) (blkOk_by (by kernel_rfl)) (fun _ _ _ _ _ => (pg_name (i := 6) sc_law_changed.nd rfl (by first | exact Or.inl rfl | exact Or.inr rfl))) (fun _ _ _ _ _ => (pts_one (pt_cmpR op_ne (pe_cmpR (inK K rfl) (pv 6) (pe_ix (ixK K rfl) (pv 1) pe_int (fun _ _ => rfl)) rfl) (pe_cmpR op_eq (pv 6) (pv 3) (nomark _)) (nomark _)))) (fun _ _ _ _ _ => (pv 6))) pa_nil))))) pss_nil)
        (pss_cons (ps_setLc (i := 4) (own := [("row", 5)]) rfl sc_law_changed.nd rfl rfl (sw_true rfl rfl rfl (by decide +kernel)) (seqK K rfl (pe_ix (ixK K rfl) (pv 1) pe_int (fun _ _ => rfl))) (blkOk_by (by kernel_rfl)) (fun _ _ _ _ _ => (pg_name (i := 5) sc_law_changed.nd rfl (by first | exact Or.inl rfl | exact Or.inr rfl))) (fun _ _ _ _ _ => pts_nil) (fun _ _ _ _ _ => (pe_callTy (listK K rfl) (by rfl) T.b_list (by decide +kernel) (pa_cons (pv 5) pa_nil))))
        (pss_cons (ps_set (i := 5) sc_law_changed.nd rfl (by first | exact Or.inl rfl | exact Or.inr rfl) (pe_ix (ixK K rfl) (pv 4) (pv 3) (fun _ _ => rfl)))
        (pss_cons (ps_asg (pe_c c_law_pick hr (by decide) rfl (pa_cons (pv 0) (pa_cons (pv 2) pa_nil))) (pg_sub (pv 5) (pe_c c_law_pick hr (by decide) rfl (pa_cons (pv 0) (pa_cons (pe_callB (lenK K rfl) (by rfl) T.b_len (by decide +kernel) (pa_cons (pv 5) pa_nil)) pa_nil))) set_list))
        (pss_one (ps_ret (pe_tup (pa_cons (pv 4) (pa_cons (pe_callTy (listK K rfl) (by rfl) T.b_list (by decide +kernel) (pa_cons (pe_ix (ixK K rfl) (pv 1) pe_int (fun _ _ => rfl)) pa_nil)) pa_nil))))))))))), ?_⟩
    walk_at "go"
    have hp0 := hp
    obtain ⟨hpS, pm, pg, hp1, hp2, hp3⟩ := hp
    obtain ⟨hmS, tm, as, hm1, hm2⟩ := id hp2
    obtain ⟨hgS, tg, hg1⟩ := id hp3
    have hlen : (as.map V.ref).length = rs.length := by rw [List.length_map, hm2.length]
    have hle := hw.le
    have hpos := hw.pos
    refine i_ixT hp1 (i := 0) (v := .ref pm) rfl ?_
    walk_at "go"
    refine i_lenQ hm1 ?_
    rw [hlen]
    walk_at "go"
    refine ⟨S, a, _, rfl, ha, hS, by omega, by omega, fun d H1 g0 g1 e1 => ?_⟩
    obtain ⟨d, rfl⟩ := Int.eq_ofNat_of_zero_le g0
    have hd : d < rs.length := by omega
    walk_at "go"
    refine ⟨S, a, _, rfl, ha, e1.src, by omega, by omega, fun x H2 g2 g3 e2 => ?_⟩
    have e02 := e1.trans e2
    have hS2 := e02.src
    have hp1' := e02.at hpS hp1
    have hm1' := e02.at hmS hm1
    have hg1' := e02.at hgS hg1
    walk_at "go"
    refine iteD (fun hx => ?_) (fun hx => ?_)
    · walk_at "go"
      refine ⟨by omega, by omega, fun D hD => ?_⟩
      rw [Int.toNat_natCast]
      refine rng0_lc (fun i H3 => i ≤ rs.length ∧ H3 = upd H2 D (.lst (((List.range i).filter fun p => (decide (p ∈ gd) != decide (p = d))).map vn))) ⟨Nat.zero_le _, rfl⟩ (fun i H3 hi hq => ?_) (fun H3 hq => ?_)
      · obtain ⟨_, rfl⟩ := hq
        walk_at "go"
        refine i_ixT (by rw [upd_ne (ne_of_none hp1' hD)]; exact hp1') (i := 1) (v := .ref pg) rfl ?_
        refine i_inI (by rw [upd_ne (ne_of_none hg1' hD)]; exact hg1') ?_
        walk_at "go"
        have hc : (!decide (decide (i ∈ gd) = decide ((i : Int) = (d : Int)))) = (decide (i ∈ gd) != decide (i = d)) := by
          have e : decide ((i : Int) = (d : Int)) = decide (i = d) := by
            by_cases h : i = d
            · subst h; simp
            · rw [decide_eq_false h, decide_eq_false (by omega)]
          rw [e]
          cases decide (i ∈ gd) <;> cases decide (i = d) <;> rfl
        rw [hc]
        have hfl : (((List.range i).filter fun p => (decide (p ∈ gd) != decide (p = d))).map vn).length < 16777216 := by
          rw [List.length_map]
          have := List.length_filter_le (fun p => (decide (p ∈ gd) != decide (p = d))) (List.range i)
          rw [List.length_range] at this
          omega
        refine iteB (fun hb => ?_) (fun hb => ?_)
        · walk_at "go"
          exact ⟨_, upd_same, szlt hfl, hi, upd_lst (by rw [range_filter_t (f := fun p => (decide (p ∈ gd) != decide (p = d))) hb, List.map_append]; rfl)⟩
        · exact ⟨hi, by rw [range_filter_f (f := fun p => (decide (p ∈ gd) != decide (p = d))) hb]⟩
      · obtain ⟨_, rfl⟩ := hq
        walk_at "go"
        refine ⟨sz2, fun q hq => ?_⟩
        have e3 : Ev S H2 (upd H2 D (.lst (((List.range rs.length).filter fun p => (decide (p ∈ gd) != decide (p = d))).map vn))) := .laid hS2 hD
        have e4 := Ev.laid (o := .tup [.ref pm, .ref D]) e3.src hq
        exact k q rs _ _ ((e02.trans e3).trans e4) ⟨e3.src.notin hq, pm, D, upd_same, ((hp2.ev e02).ev e3).ev e4, hS2.notin hD, false, e4.at (hS2.notin hD) upd_same⟩ hw (GOK.filter _) rfl
    · walk_at "go"
      have hm0 := hm0
      refine seq_lc hm1' (fun D hD => ⟨fun j H3 => Same H2 H3 ∧ ∃ bs, H3 D = some (.lst (bs.map V.ref)) ∧ Paired (fun a r => H2 a = none ∧ a ≠ D ∧ H3 a = some (.lst (r.map vn))) bs (rs.take j) ∧ bs.Nodup, ⟨same_laid hD, [], upd_same, by simp; exact .nil, List.nodup_nil⟩, fun j H3 _ ⟨e, _⟩ => e _ _ hm1', fun j v H3 hvj hq => ?_, fun H3 hq => ?_⟩)
      · obtain ⟨s3, bs, hD3, hbs, hnd⟩ := hq
        obtain ⟨b, hvb, rfl⟩ := at_map hvj
        obtain ⟨rw', hrw, hia⟩ := Paired.at0 hm2 hvb
        obtain ⟨hia1, ti, hia2⟩ := hia.ev e02
        have hj : j < rs.length := (List.getElem?_eq_some_iff.mp hrw).1
        walk_at "go"
        refine i_listOf (s3 _ _ hia2) (fun l hl => ?_)
        have hlD : l ≠ D := (ne_of_none hD3 hl).symm
        refine ⟨bs.map V.ref, by rw [upd_ne hlD.symm]; exact hD3, szlt (by rw [List.length_map, hbs.length, List.length_take]; omega), Same.put (s3.trans (same_laid hl)) hD, bs ++ [l], by rw [upd_same, List.map_append]; rfl, ?_, ?_⟩
        · rw [take_at hrw]
          refine U.Paired.snoc (Paired.mapP hbs fun b r z => ⟨z.1, z.2.1, ?_⟩) ⟨same_free s3 hl, hlD, by rw [upd_ne hlD, upd_same]⟩
          rw [upd_ne z.2.1, upd_ne (ne_of_none z.2.2 hl)]
          exact z.2.2
        · rw [List.nodup_append]
          refine ⟨hnd, by simp, fun x hx y hy e => ?_⟩
          rw [List.mem_singleton.mp hy] at e
          obtain ⟨q, hq⟩ := List.mem_iff_getElem?.mp hx
          obtain ⟨r', _, _, _, hz⟩ := Paired.at0 hbs hq
          rw [e, hl] at hz
          cases hz
      · obtain ⟨s3, bs, hD3, hbs, hnd⟩ := hq
        rw [hlen, List.take_length] at hbs
        have e3 : Ev S H2 H3 := .of_same hS2 s3
        walk_at "go"
        obtain ⟨b, hb1⟩ : ∃ b, bs[d]? = some b := ⟨_, List.getElem?_eq_getElem (by rw [hbs.length]; exact hd)⟩
        obtain ⟨rw', hrw, hbF, hbD, hb3⟩ := Paired.at0 hbs hb1
        have hbS := hS2.notin hbF
        have erow : row rs d = rw' := Option.some.inj ((row_at hd).symm.trans hrw)
        have hwl := hw.wid _ (List.mem_of_getElem? hrw)
        have hm3 := hw.m3
        refine i_ixL hD3 (v := .ref b) (atI_nat (map_at hb1)) ?_
        walk_at "go"
        refine ⟨S, a, _, rfl, ha, e3.src, by omega, by omega, fun x H4 g4 g5 e4 => ?_⟩
        obtain ⟨x, rfl⟩ := Int.eq_ofNat_of_zero_le g4
        have hb4 := e4.at hbS hb3
        walk_at "go"
        have hD4 := e4.at (hS2.notin hD) hD3
        refine ⟨S, a, _, rfl, ha, e4.src, by rw [List.length_map]; omega, by rw [List.length_map]; omega, fun y H5 g6 g7 e5 => ?_⟩
        obtain ⟨y, rfl⟩ := Int.eq_ofNat_of_zero_le g6
        have hy : y < rw'.length := by
          rw [List.length_map] at g7
          omega
        have hb5 := e5.at hbS hb4
        have hD5 := e5.at (hS2.notin hD) hD4
        refine i_setL hb5 (ixN_nat (by rw [List.length_map]; exact hy)) ?_
        have hset : (rw'.map vn).set y (.int (x : Int)) = (rw'.set y x).map vn := (List.map_set).symm
        rw [hset]
        have e45 := e4.trans e5
        have e6 : Ev S H2 (upd H5 b (.lst ((rw'.set y x).map vn))) := Ev.put hS2 (e3.trans e45) hbF
        have hD6 : (upd H5 b (.lst ((rw'.set y x).map vn))) D = some (.lst (bs.map V.ref)) := by rw [upd_ne hbD.symm]; exact hD5
        have hrows : Paired (fun a r => Ints S (upd H5 b (.lst ((rw'.set y x).map vn))) a r) bs (rs.set d (rw'.set y x)) := by
          refine paired_of (by rw [List.length_set, hbs.length]) fun i c r hc hr => ?_
          by_cases hid : i = d
          · subst hid
            rw [hb1] at hc
            cases hc
            rw [List.getElem?_set_self hd] at hr
            cases hr
            exact ⟨hbS, false, upd_same⟩
          · rw [List.getElem?_set_ne (fun e => hid e.symm)] at hr
            obtain ⟨r', hr', h1, h2, h3⟩ := Paired.at0 hbs hc
            rw [hr] at hr'
            cases hr'
            have hcb : c ≠ b := fun e => by
              obtain ⟨hi1, hi2⟩ := List.getElem?_eq_some_iff.mp hc
              obtain ⟨hi3, hi4⟩ := List.getElem?_eq_some_iff.mp hb1
              have pw := List.pairwise_iff_getElem.mp hnd
              rcases Nat.lt_or_gt_of_ne hid with z | z
              · exact pw i d hi1 hi3 z (by rw [hi2, hi4, e])
              · exact pw d i hi3 hi1 z (by rw [hi2, hi4, e])
            exact ⟨hS2.notin h1, false, by rw [upd_ne hcb]; exact e45.at (hS2.notin h1) h3⟩
        generalize hH6 : upd H5 b (.lst ((rw'.set y x).map vn)) = H6 at *
        have hS6 := e6.src
        walk_at "go"
        refine i_ixT (e6.at hpS hp1') (i := 1) (v := .ref pg) rfl ?_
        walk_at "go"
        refine i_listOf (e6.at hgS hg1') (fun G hG => ?_)
        refine ⟨sz2, fun q hq => ?_⟩
        have e7 := Ev.laid (o := .lst (gd.map vn)) hS6 hG
        have e8 := Ev.laid (o := .tup [.ref D, .ref G]) e7.src hq
        refine k q (rs.set d (rw'.set y x)) gd _ ((e02.trans e6).trans (e7.trans e8)) ⟨e7.src.notin hq, D, G, upd_same, ⟨hS2.notin hD, false, bs, e8.at (hS2.notin hD) (e7.at (hS2.notin hD) hD6), Paired.mapP hrows fun _ _ z => (z.ev e7).ev e8⟩, hS6.notin hG, false, e8.at (hS6.notin hG) upd_same⟩ (.of (by rw [List.length_set]; exact hpos) (by rw [List.length_set]; exact hle) hm3 (fun r hr => ?_) (fun r hr t ht => ?_)) (by rw [List.length_set]; exact hg) (List.length_set ..)
        · rcases List.mem_or_eq_of_mem_set hr with hr | hr
          · exact hw.wid r hr
          · rw [hr, List.length_set]; exact hwl
        · rw [List.length_set]
          rcases List.mem_or_eq_of_mem_set hr with hr | hr
          · exact hw.lt r hr t ht
          · rw [hr] at ht
            rcases List.mem_or_eq_of_mem_set ht with ht | ht
            · exact hw.lt _ (List.mem_of_getElem? hrw) t ht
            · rw [ht]; omega
end
abbrev s_law_line : Stmt := top 43
theorem sc_law_line : FnScope ["alphabet", "word", "cut", "size", "moves", "k", "ahead", "letter", "one"] ["alphabet", "word", "cut"] (fnScope s_law_line) := ⟨rfl, rfl, rfl, by decide +kernel, rfl, by decide +kernel, by decide +kernel⟩
def sp_law_line : Sp := fun vs H Q _ => ∃ (al w z : List Nat) (cut : Int), vs = [.str (SX.S al), .str (SX.S z), .int cut] ∧ AlOk al ∧ Word al w z ∧ 0 < z.length ∧ z.length ≤ 40 ∧ -1 ≤ cut ∧ cut ≤ 40 ∧ ∀ (Z : AS) q rs gd H', Z = Old H → Same H H' → Mach Z H' q rs gd → WF al.length rs → GOK rs.length gd → rs.length ≤ 60 → Q (.ref q) H'
section
variable {P : Program} {w : World} {K : PySem.W.Frag} {mg : Str → Option Value} {base : Heap} {C : Addr} {r : Er}
set_option maxHeartbeats 4000000 in
theorem ok_law_line {f : Addr} {fd : FuncData} (F : Def K mg "_law_line" s_law_line f fd) (T : Txt K mg C r) (b : Binds K fd ["alphabet", "word", "cut"] []) : Cal P w K mg base 1 "_law_line" (sp_law_line) [] := by
  refine cal0 F b .nil sc_law_line (fun vs H Q E h => ?_) (fun cdv A outer s H vs Q E hr h => ?_)
  · obtain ⟨_, _, _, _, rfl, _⟩ := h
    rfl
  · obtain ⟨al, w, z, cut, rfl, ha, hz, hz0, hz1, hc0, hc1, k⟩ := h
    refine ⟨_, (C8.pss_cut (ps_set (i := 3) sc_law_line.nd rfl (by first | exact Or.inl rfl | exact Or.inr rfl) (pe_ifExp (pt_cmpR op_lt (pv 2) pe_int (nomark _)) (pe_callB (lenK K rfl) (by rfl) T.b_len (by decide +kernel) (pa_cons (pv 1) pa_nil)) (pe_op op_add (pv 2) pe_int)))
        (pss_cons (ps_set (i := 4) sc_law_line.nd rfl (by first | exact Or.inl rfl | exact Or.inr rfl) (pe_lst pa_nil))
        (pss_cons (ps_for PassesOwn.never rfl (pi_range1 (by rfl) T.b_range (pa_cons (pv 3) pa_nil)) (pg_name (i := 5) sc_law_line.nd rfl (by first | exact Or.inl rfl | exact Or.inr rfl))
        (C8.pss_cut (ps_set (i := 6) sc_law_line.nd rfl (by first | exact Or.inl rfl | exact Or.inr rfl) (pe_ifExp (pt_cmpR op_lt (pe_op op_add (pv 5) pe_int) (pv 3) (nomark _)) (pe_op op_add (pv 5) pe_int) (pe_ifExp (pt_cmpR op_lt (pv 2) pe_int (nomark _)) pe_int (pv 3))))
        (pss_cons (ps_set (i := 7) sc_law_line.nd rfl (by first | exact Or.inl rfl | exact Or.inr rfl) (pe_ix (ixK K rfl) (pv 1) (pe_op op_mod (pe_callTy int1 (by rfl) T.b_int (by decide +kernel) (pa_cons (pv 5) pa_nil)) (pe_callB (lenK K rfl) (by rfl) T.b_len (by decide +kernel) (pa_cons (pv 1) pa_nil))) (fun _ _ => rfl)))
        (pss_one (ps_expr (bmK K rfl (pe_bm PySem.F.plainAttrs_list PySem.F.slot_list_append PySem.F.type_list_append mt_append (pv 4) (pa_cons (pe_lc (own := [("one", 8)]) rfl sc_law_line.nd (pi_str (pv 0)) (blkOk_by (by kernel_rfl)) (fun _ _ _ _ _ => (pg_name (i := 8) sc_law_line.nd rfl (by first | exact Or.inl rfl | exact Or.inr rfl))) (fun _ _ _ _ _ => pts_nil) (fun _ _ _ _ _ => (pe_ifExp (pt_cmpR op_eq (pv 8) (pv 7) (nomark _)) (pv 6) (pv 3)))) pa_nil))))))))
        (pss_cons (ps_expr (bmK K rfl (pe_bm PySem.F.plainAttrs_list PySem.F.slot_list_append PySem.F.type_list_append mt_append (pv 4) (pa_cons (pe_lc (own := [("one", 8)]) rfl sc_law_line.nd (pi_str (pv 0)) (blkOk_by (by kernel_rfl)) (fun _ _ _ _ _ => (pg_name (i := 8) sc_law_line.nd rfl (by first | exact Or.inl rfl | exact Or.inr rfl))) (fun _ _ _ _ _ => pts_nil) (fun _ _ _ _ _ => (pv 3))) pa_nil))))
        (pss_one (ps_ret (pe_tup (pa_cons (pv 4) (pa_cons (pe_lc (own := [("k", 5)]) rfl sc_law_line.nd (pi_range1 (by rfl) T.b_range (pa_cons (pv 3) pa_nil)) (blkOk_by (by kernel_rfl)) (fun _ _ _ _ _ => (pg_name (i := 5) sc_law_line.nd rfl (by first | exact Or.inl rfl | exact Or.inr rfl))) (fun _ _ _ _ _ => pts_nil) (fun _ _ _ _ _ => (pv 5))) pa_nil))))))))), ?_⟩
    walk_at "go"
    have hl : (SX.S z).length = z.length := SX.S_len z
    have hla : (SX.S al).length = al.length := SX.S_len al
    have ha3 := ha.le
    have hwz := hz.len
    refine i_cut (fun σ H' => ∃ size : Nat, 0 ≤ size ∧ size ≤ 41 ∧ H' = H ∧ σ = [some (.str (SX.S al)), some (.str (SX.S z)), some (.int cut), some (vn size), none, none, none, none, none]) ?_ (fun σ H' hq => ?_)
    · walk_at "go"
      refine iteD (fun h => ?_) (fun h => ?_)
      · walk_at "go"
        refine i_lenS (szl (by omega)) ?_
        walk_at "go"
        exact ⟨_, Nat.zero_le _, by omega, rfl, rfl⟩
      · walk_at "go"
        obtain ⟨c, rfl⟩ := Int.eq_ofNat_of_zero_le (show 0 ≤ cut by omega)
        exact ⟨c + 1, Nat.zero_le _, by omega, rfl, rfl⟩
    · obtain ⟨size, _, hs1, rfl, rfl⟩ := hq
      walk_at "go"
      refine ⟨szl (by show 0 ≤ 16777216; decide), fun M hM => ?_⟩
      walk_at "go"
      refine ⟨by omega, by omega, ?_⟩
      rw [Int.toNat_natCast]
      have rowOf : ∀ (H1 : Hp) (f : Nat → Nat) (D : Addr), True := fun _ _ _ => trivial
      refine rng0_for (fun i σ H1 => ∃ x5 x6 x7, σ = [some (.str (SX.S al)), some (.str (SX.S z)), some (.int cut), some (vn size), some (.ref M), x5, x6, x7, none] ∧ Same H' H1 ∧ ∃ bs rws, H1 M = some (.lst (bs.map V.ref)) ∧ Paired (fun a r => Ints (fun b => Old H' b ∨ b = M) H1 a r) bs rws ∧ rws.length = i ∧ ∀ r ∈ rws, r.length = al.length ∧ ∀ t ∈ r, t ≤ size)
        ⟨none, none, none, rfl, same_laid hM, [], [], upd_same, .nil, rfl, by simp⟩ (fun i σ H1 hi hq => ?_) (fun σ H1 hq => ?_)
      · obtain ⟨x5, x6, x7, rfl, s1, bs, rws, hM1, hbs, hlen, hrw⟩ := hq
        walk_at "go"
        refine i_cut (fun σ H2 => ∃ ah : Nat, ah ≤ size ∧ H2 = H1 ∧ σ = [some (.str (SX.S al)), some (.str (SX.S z)), some (.int cut), some (vn size), some (.ref M), some (vn i), some (vn ah), x7, none]) ?_ (fun σ H2 hq => ?_)
        · walk_at "go"
          refine iteD (fun h => ?_) (fun h => ?_)
          · walk_at "go"
            exact ⟨i + 1, hi, rfl, rfl⟩
          · walk_at "go"
            refine iteD (fun h => ?_) (fun h => ?_)
            · walk_at "go"
              exact ⟨0, Nat.zero_le _, rfl, rfl⟩
            · walk_at "go"
              exact ⟨size, Nat.le_refl _, rfl, rfl⟩
        · obtain ⟨ah, hah, rfl, rfl⟩ := hq
          walk_at "go"
          refine i_lenS (szl (by omega)) ?_
          walk_at "go"
          have hmod : i % z.length < z.length := Nat.mod_lt _ hz0
          refine i_ixS (szl (by omega)) (c := z[i % z.length]'hmod) (by rw [hl, show ((i : Int) % (z.length : Int)) = ((i % z.length : Nat) : Int) from rfl]; exact S_at (List.getElem?_eq_getElem _)) ?_
          generalize z[i % z.length]'hmod = lt
          walk_at "go"
          intro D hD
          have hDM : D ≠ M := (ne_of_none hM1 hD).symm
          refine str_lc (fun j H3 => j ≤ al.length ∧ H3 = upd H2 D (.lst (((al.take j).map fun c => if c = lt then ah else size).map vn))) ⟨Nat.zero_le _, rfl⟩ (fun j c H3 hc hq => ?_) (fun H3 hq => ?_)
          · obtain ⟨_, rfl⟩ := hq
            have hc' : al[j]? = some c := by simpa [SX.S] using hc
            have hj := (List.getElem?_eq_some_iff.mp hc').1
            walk_at "go"
            have fin : ∀ v : Nat, v = (if c = lt then ah else size) → (∃ acc, (upd H2 D (.lst (((al.take j).map fun c => if c = lt then ah else size).map vn))) D = some (.lst acc) ∧ acc.length < sizeLine ∧ j + 1 ≤ al.length ∧ upd (upd H2 D (.lst (((al.take j).map fun c => if c = lt then ah else size).map vn))) D (.lst (acc ++ [vn v])) = upd H2 D (.lst (((al.take (j + 1)).map fun c => if c = lt then ah else size).map vn))) := fun v e => ⟨_, upd_same, szlt (by rw [List.length_map, List.length_map, List.length_take]; omega), hj, upd_lst (by rw [take_at hc', List.map_append, List.map_append, e]; rfl)⟩
            refine iteD (fun h => ?_) (fun h => ?_)
            · have h' : c = lt := by
                have : (⟨#[c]⟩ : Str) = ⟨#[lt]⟩ := h
                injection this with h1
                injection h1 with h1
                injection h1
              walk_at "go"
              exact fin ah (by rw [if_pos h'])
            · have h' : ¬ c = lt := fun e => h (by rw [e])
              walk_at "go"
              exact fin size (by rw [if_neg h'])
          · obtain ⟨_, rfl⟩ := hq
            walk_at "go"
            rw [show (SX.S al).cps.size = al.length from hla, List.take_length]
            have hk : Kp (fun b => Old H' b ∨ b = M) H2 (upd (upd H2 D (.lst ((al.map fun c => if c = lt then ah else size).map vn))) M (.lst (bs.map V.ref ++ [V.ref D]))) := fun b o n e => by
              rw [upd_ne (fun z => n (.inr z)), upd_ne (ne_of_none e hD)]
              exact e
            refine i_append (xs := bs.map V.ref) (by rw [upd_ne hDM.symm]; exact hM1) (by rw [List.length_map, hbs.length]; omega) ?_
            walk_at "go"
            refine ⟨_, _, _, rfl, Same.put (s1.trans (same_laid hD)) hM, bs ++ [D], rws ++ [al.map fun c => if c = lt then ah else size], by rw [upd_same, List.map_append]; rfl, ?_, by simp [hlen], fun r hr => ?_⟩
            · exact U.Paired.snoc (Paired.mapP hbs fun b r z => z.kp hk fun _ z => z) ⟨fun z => z.elim (Old.none (same_free s1 hD)) hDM, false, by rw [upd_ne hDM, upd_same]; rfl⟩
            · rcases List.mem_append.mp hr with hr | hr
              · exact hrw r hr
              · rw [List.mem_singleton.mp hr]
                refine ⟨List.length_map .., fun t ht => ?_⟩
                obtain ⟨c, _, rfl⟩ := List.mem_map.mp ht
                show (if c = lt then ah else size) ≤ size
                split
                · exact hah
                · exact Nat.le_refl _
      · obtain ⟨x5, x6, x7, rfl, s1, bs, rws, hM1, hbs, hlen, hrw⟩ := hq
        walk_at "go"
        intro D hD
        have hDM : D ≠ M := (ne_of_none hM1 hD).symm
        refine str_lc (fun j H3 => j ≤ al.length ∧ H3 = upd H1 D (.lst ((List.replicate j size).map vn))) ⟨Nat.zero_le _, rfl⟩ (fun j c H3 hc hq => ?_) (fun H3 hq => ?_)
        · obtain ⟨_, rfl⟩ := hq
          have hc' : al[j]? = some c := by simpa [SX.S] using hc
          have hj := (List.getElem?_eq_some_iff.mp hc').1
          walk_at "go"
          exact ⟨_, upd_same, szlt (by rw [List.length_map, List.length_replicate]; omega), hj, upd_lst (by rw [List.replicate_succ', List.map_append]; rfl)⟩
        · obtain ⟨_, rfl⟩ := hq
          walk_at "go"
          rw [show (SX.S al).cps.size = al.length from hla]
          have hk : Kp (fun b => Old H' b ∨ b = M) H1 (upd (upd H1 D (.lst ((List.replicate al.length size).map vn))) M (.lst (bs.map V.ref ++ [V.ref D]))) := fun b o n e => by
            rw [upd_ne (fun z => n (.inr z)), upd_ne (ne_of_none e hD)]
            exact e
          refine i_append (xs := bs.map V.ref) (by rw [upd_ne hDM.symm]; exact hM1) (by rw [List.length_map, hbs.length]; omega) ?_
          walk_at "go"
          have s2 : Same H' (upd (upd H1 D (.lst ((List.replicate al.length size).map vn))) M (.lst (bs.map V.ref ++ [V.ref D]))) := Same.put (s1.trans (same_laid hD)) hM
          have hbs2 : Paired (fun a r => Ints (fun b => Old H' b ∨ b = M) (upd (upd H1 D (.lst ((List.replicate al.length size).map vn))) M (.lst (bs.map V.ref ++ [V.ref D]))) a r) (bs ++ [D]) (rws ++ [List.replicate al.length size]) := U.Paired.snoc (Paired.mapP hbs fun b r z => z.kp hk fun _ z => z) ⟨fun z => z.elim (Old.none (same_free s1 hD)) hDM, false, by rw [upd_ne hDM, upd_same]; rfl⟩
          generalize hH2 : upd (upd H1 D (.lst ((List.replicate al.length size).map vn))) M (.lst (bs.map V.ref ++ [V.ref D])) = H2 at *
          have hM2 : H2 M = some (.lst ((bs ++ [D]).map V.ref)) := by rw [← hH2, upd_same, List.map_append]; rfl
          refine ⟨by omega, by omega, fun G hG => ?_⟩
          rw [Int.toNat_natCast]
          refine rng0_lc (fun q H3 => q ≤ size ∧ H3 = upd H2 G (.lst ((List.range q).map vn))) ⟨Nat.zero_le _, rfl⟩ (fun q H3 hi hq => ?_) (fun H3 hq => ?_)
          · obtain ⟨_, rfl⟩ := hq
            walk_at "go"
            exact ⟨_, upd_same, szlt (by rw [List.length_map, List.length_range]; omega), hi, upd_lst (by rw [List.range_succ, List.map_append]; rfl)⟩
          · obtain ⟨_, rfl⟩ := hq
            walk_at "go"
            refine ⟨sz2, fun q hq => ?_⟩
            have s3 : Same H2 (upd (upd H2 G (.lst ((List.range size).map vn))) q (.tup [.ref M, .ref G])) := (same_laid hG).trans (same_laid hq)
            have nz : ∀ {Z : AS}, TO Z H' → ∀ {x}, H' x = none → ¬ Z x := fun hZ x hx => hZ.new hx
            refine k (Old H') q (rws ++ [List.replicate al.length size]) (List.range size) _ rfl (s2.trans s3) ⟨Old.none (same_free (s2.trans (same_laid hG)) hq), M, G, upd_same, ⟨Old.none hM, false, bs ++ [D], s3 _ _ hM2, Paired.mapP hbs2 fun b r z => (z.same s3).weak fun _ y => .inl y⟩, Old.none (same_free s2 hG), false, ?_⟩ (.of (by simp) (by rw [List.length_append, hlen]; show size + 1 ≤ 60; omega) ha3 (fun r hr => ?_) (fun r hr t ht => ?_)) ⟨range_inc size, fun x hx => ?_⟩ (by rw [List.length_append, hlen]; show size + 1 ≤ 60; omega)
            · rw [upd_ne (ne_of_none upd_same hq), upd_same]
              rfl
            · rcases List.mem_append.mp hr with hr | hr
              · exact (hrw r hr).1
              · rw [List.mem_singleton.mp hr, List.length_replicate]
            · rw [List.length_append, hlen]
              show t < size + 1
              rcases List.mem_append.mp hr with hr | hr
              · exact Nat.lt_succ_of_le ((hrw r hr).2 t ht)
              · rw [List.mem_singleton.mp hr] at ht
                rw [(List.mem_replicate.mp ht).2]
                exact Nat.lt_succ_self _
            · have := List.mem_range.mp hx
              rw [List.length_append, hlen]
              show x < size + 1
              omega
end
abbrev s_law_classes : Stmt := top 48
theorem sc_law_classes : FnScope ["moves", "good", "most", "inside", "room", "classes", "many", "step", "numbers", "later", "p", "word", "target"] ["moves", "good", "most"] (fnScope s_law_classes) := ⟨rfl, rfl, rfl, by decide +kernel, rfl, by decide +kernel, by decide +kernel⟩
def sp_law_classes : Sp := fun vs H Q _ => ∃ (Z : AS) (pm pg : Addr) (rs : Rws) (gd : List Nat) (m n : Nat), vs = [.ref pm, .ref pg, .int (n : Int)] ∧ Rows Z H pm rs ∧ Ints Z H pg gd ∧ WFB m rs ∧ GOK rs.length gd ∧ n ≤ 4000 ∧
  ∀ k H', (cnt (List.range rs.length) (sigB rs gd (k + 1)) = cnt (List.range rs.length) (clsB rs gd k) ∨ n < cnt (List.range rs.length) (sigB rs gd (k + 1))) → Same H H' → Q (vn (cnt (List.range rs.length) (sigB rs gd (k + 1)))) H'
section
variable {P : Program} {w : World} {K : PySem.W.Frag} {mg : Str → Option Value} {base : Heap} {C : Addr} {r : Er}
set_option maxHeartbeats 4000000 in
theorem ok_law_classes {f : Addr} {fd : FuncData} (F : Def K mg "_law_classes" s_law_classes f fd) (T : Txt K mg C r) (b : Binds K fd ["moves", "good", "most"] []) : Cal P w K mg base 1 "_law_classes" (sp_law_classes) [] := by
  refine cal0 F b .nil sc_law_classes (fun vs H Q E h => ?_) (fun cdv A outer s H vs Q E hr h => ?_)
  · obtain ⟨_, _, _, _, _, _, _, rfl, _⟩ := h
    rfl
  · obtain ⟨Z, pm, pg, rs, gd, m, n, rfl, hm, hg, hw, hk, hn, k⟩ := h
    refine ⟨_, (pss_cons (ps_set (i := 3) sc_law_classes.nd rfl (by first | exact Or.inl rfl | exact Or.inr rfl) pe_dnewK)
        (pss_cons (ps_for PassesOwn.never rfl (seqK K rfl (pv 1)) (pg_name (i := 4) sc_law_classes.nd rfl (by first | exact Or.inl rfl | exact Or.inr rfl))
        (pss_one (ps_dput (hu_of hr) (pv 3) (pv 4) pe_bl rfl)))
        (pss_cons (ps_set (i := 5) sc_law_classes.nd rfl (by first | exact Or.inl rfl | exact Or.inr rfl) (pe_lc (own := [("p", 10)]) rfl sc_law_classes.nd (pi_range1 (by rfl) T.b_range (pa_cons (pe_callB (lenK K rfl) (by rfl) T.b_len (by decide +kernel) (pa_cons (pv 0) pa_nil)) pa_nil)) (blkOk_by (by kernel_rfl)) (fun _ _ _ _ _ => (pg_name (i := 10) sc_law_classes.nd rfl (by first | exact Or.inl rfl | exact Or.inr rfl))) (fun _ _ _ _ _ => pts_nil) (fun _ _ _ _ _ => (pe_ifExp (pt_cmp (pc_din (hu_of hr) (pv 10) (pv 3))) pe_int pe_int))))
        (pss_cons (ps_set (i := 6) sc_law_classes.nd rfl (by first | exact Or.inl rfl | exact Or.inr rfl) (lenSetK K rfl (by rfl) T.b_len (by rfl) T.b_set (pv 5)))
        (pss_cons (ps_for PassesOwn.never rfl (pi_range1 (by rfl) T.b_range (pa_cons (pe_op op_add (pv 2) pe_int) pa_nil)) (pg_name (i := 7) sc_law_classes.nd rfl (by first | exact Or.inl rfl | exact Or.inr rfl))
        (pss_cons (ps_set (i := 8) sc_law_classes.nd rfl (by first | exact Or.inl rfl | exact Or.inr rfl) pe_dnewN)
        (pss_cons (ps_set (i := 9) sc_law_classes.nd rfl (by first | exact Or.inl rfl | exact Or.inr rfl) (pe_lst pa_nil))
        (pss_cons (ps_for PassesOwn.never rfl (pi_range1 (by rfl) T.b_range (pa_cons (pe_callB (lenK K rfl) (by rfl) T.b_len (by decide +kernel) (pa_cons (pv 0) pa_nil)) pa_nil)) (pg_name (i := 10) sc_law_classes.nd rfl (by first | exact Or.inl rfl | exact Or.inr rfl))
        (pss_cons (ps_set (i := 11) sc_law_classes.nd rfl (by first | exact Or.inl rfl | exact Or.inr rfl) (pe_tup (pa_cons (pe_ix (ixK K rfl) (pv 5) (pv 10) (fun _ _ => rfl)) (pa_cons (pe_callTy (tupleK K rfl) (by rfl) T.b_tuple (by decide +kernel) (pa_cons (pe_lc (own := [("target", 12)]) rfl sc_law_classes.nd (seqK K rfl (pe_ix (ixK K rfl) (pv 0) (pv 10) (fun _ _ => rfl))) (blkOk_by (by kernel_rfl)) (fun _ _ _ _ _ => (pg_name (i := 12) sc_law_classes.nd rfl (by first | exact Or.inl rfl | exact Or.inr rfl))) (fun _ _ _ _ _ => pts_nil) (fun _ _ _ _ _ => (pe_ix (ixK K rfl) (pv 5) (pv 12) (fun _ _ => rfl)))) pa_nil)) pa_nil))))
        (C8.pss_cut (ps_if (pt_cmp (pc_nnotin hr.units (pv 11) (pv 8))) (pss_one (ps_nput hr.units (pv 8) (pv 11) (pe_callB (lenNK P w rfl rfl) (by rfl) T.b_len (by decide +kernel) (pa_cons (pv 8) pa_nil)) rfl)) pss_nil)
        (pss_one (ps_expr (bmK K rfl (pe_bm PySem.F.plainAttrs_list PySem.F.slot_list_append PySem.F.type_list_append mt_append (pv 9) (pa_cons (pe_nget hr.units (pv 8) (pv 11) (fun _ _ => rfl)) pa_nil))))))))
        (pss_cons (ps_set (i := 5) sc_law_classes.nd rfl (by first | exact Or.inl rfl | exact Or.inr rfl) (pe_callTy (listK K rfl) (by rfl) T.b_list (by decide +kernel) (pa_cons (pv 9) pa_nil)))
        (pss_cons (ps_if (PW.pt (pw_or (pt_cmpR op_eq (pe_callB (lenNK P w rfl rfl) (by rfl) T.b_len (by decide +kernel) (pa_cons (pv 8) pa_nil)) (pv 6) (nomark _)) (pw_or1 (pt_cmpR op_gt (pe_callB (lenNK P w rfl rfl) (by rfl) T.b_len (by decide +kernel) (pa_cons (pv 8) pa_nil)) (pv 2) (nomark _))))) (pss_one (ps_ret (pe_callB (lenNK P w rfl rfl) (by rfl) T.b_len (by decide +kernel) (pa_cons (pv 8) pa_nil)))) pss_nil)
        (pss_one (ps_set (i := 6) sc_law_classes.nd rfl (by first | exact Or.inl rfl | exact Or.inr rfl) (pe_callB (lenNK P w rfl rfl) (by rfl) T.b_len (by decide +kernel) (pa_cons (pv 8) pa_nil))))))))))
        (pss_one (ps_ret (pv 6)))))))), ?_⟩
    walk_at "go"
    have hg0 := hg
    obtain ⟨hgZ, tg, hg1⟩ := hg
    have hle := hw.le
    have hpos := hw.pos
    have hm3 := hw.m3
    have hgnd : gd.Nodup := hk.inc.imp fun z => Nat.ne_of_lt z
    have hgl : gd.length ≤ rs.length := nodup_le hgnd hk.lt
    obtain ⟨tm, vm, hm1, hml⟩ := hm.len
    intro I hI
    walk_at "go"
    refine seq_for ((same_laid hI) _ _ hg1) (fun i σ H' => ∃ x4, σ = [some (.ref pm), some (.ref pg), some (.int (n : Int)), some (.ref I), x4, none, none, none, none, none, none, none, none] ∧ H' = upd H I (.dK (mapK (gd.take i) fun _ => .bl true))) ⟨none, rfl, rfl⟩ (fun i σ H' _ ⟨_, _, e⟩ => by rw [e]; exact (same_laid hI) _ _ hg1) (fun i v σ H' hv hq => ?_) (fun σ H' hq => ?_)
    · obtain ⟨x4, rfl, rfl⟩ := hq
      obtain ⟨u, hu, rfl⟩ := at_map hv
      have hnot : u ∉ gd.take i := fun z => by
        obtain ⟨q, hq1, hq2⟩ := List.mem_iff_getElem.mp z
        rw [List.length_take] at hq1
        rw [List.getElem_take] at hq2
        obtain ⟨hi1, hi2⟩ := List.getElem?_eq_some_iff.mp hu
        exact List.pairwise_iff_getElem.mp hgnd q i (by omega) hi1 (by omega) (hq2.trans hi2.symm)
      walk_at "go"
      refine r_dput upd_same (by rw [mapK_len, List.length_take]; omega) ?_
      exact ⟨_, rfl, by rw [upd_upd, putK_mapK hnot rfl, take_at hu]⟩
    · obtain ⟨x4, rfl, rfl⟩ := hq
      have sI : Same H (upd H I (.dK (mapK (gd.take (List.map vn gd).length) fun _ => .bl true))) := same_laid hI
      have hI1 : (upd H I (.dK (mapK (gd.take (List.map vn gd).length) fun _ => .bl true))) I = some (.dK (mapK gd fun _ => .bl true)) := by
        rw [upd_same, List.length_map, List.take_length]
      generalize upd H I (.dK (mapK (gd.take (List.map vn gd).length) fun _ => .bl true)) = H1 at *
      have hm1' := sI _ _ hm1
      walk_at "go"
      refine i_lenQ hm1' ?_
      rw [hml]
      walk_at "go"
      refine ⟨by omega, by omega, fun D hD => ?_⟩
      rw [Int.toNat_natCast]
      refine rng0_lc (fun i H' => i ≤ rs.length ∧ H' = upd H1 D (.lst ((List.range i).map fun p => vn (clsB rs gd 0 p)))) ⟨Nat.zero_le _, rfl⟩ (fun i H' hi hq => ?_) (fun H' hq => ?_)
      · obtain ⟨_, rfl⟩ := hq
        walk_at "go"
        refine r_din (by rw [upd_ne (ne_of_none hI1 hD)]; exact hI1) ?_
        walk_at "go"
        have fin : ∀ v : Nat, v = clsB rs gd 0 i → (∃ acc, (upd H1 D (.lst ((List.range i).map fun p => vn (clsB rs gd 0 p)))) D = some (.lst acc) ∧ acc.length < sizeLine ∧ i + 1 ≤ rs.length ∧ upd (upd H1 D (.lst ((List.range i).map fun p => vn (clsB rs gd 0 p)))) D (.lst (acc ++ [vn v])) = upd H1 D (.lst ((List.range (i + 1)).map fun p => vn (clsB rs gd 0 p)))) := fun v e => ⟨_, upd_same, szlt (by rw [List.length_map, List.length_range]; omega), hi, upd_lst (by rw [List.range_succ, List.map_append, e]; rfl)⟩
        by_cases hin : i ∈ gd
        · rw [valV_mapK_in hin]
          refine iteT ?_
          walk_at "go"
          exact fin 1 (by simp [clsB, hin])
        · rw [valV_mapK_no hin]
          refine iteF ?_
          walk_at "go"
          exact fin 0 (by simp [clsB, hin])
      · obtain ⟨_, rfl⟩ := hq
        walk_at "go"
        refine ⟨D, ((List.range rs.length).map (clsB rs gd 0)).map fun (n : Nat) => (n : Int), rfl, SqL.of (by rw [upd_same, List.map_map, List.map_map]; rfl), by rw [List.length_map, List.length_map, List.length_range]; omega, ?_⟩
        have e0 : (dd (((List.range rs.length).map (clsB rs gd 0)).map fun (n : Nat) => (n : Int))).length = cnt (List.range rs.length) (clsB rs gd 0) := by
          rw [dd_map_inj (fun x y h => by omega), List.length_map]
          rfl
        rw [e0]
        have hc0 : 1 ≤ cnt (List.range rs.length) (clsB rs gd 0) := List.length_pos_of_mem (mem_dd.mpr (List.mem_map.mpr ⟨0, List.mem_range.mpr hpos, rfl⟩))
        have sD : Same H (upd H1 D (.lst ((List.range rs.length).map fun p => vn (clsB rs gd 0 p)))) := sI.trans (same_laid hD)
        have hD1 : (upd H1 D (.lst ((List.range rs.length).map fun p => vn (clsB rs gd 0 p)))) D = some (.lst ((List.range rs.length).map fun p => vn (clsB rs gd 0 p))) := upd_same
        generalize upd H1 D (.lst ((List.range rs.length).map fun p => vn (clsB rs gd 0 p))) = H2 at *
        walk_at "go"
        refine ⟨by omega, by omega, ?_⟩
        rw [show ((n : Int) + 1).toNat = n + 1 by omega]
        refine rng0_for (fun st σ H' => ∃ Cl x7 x8 x9 x10 x11, σ = [some (.ref pm), some (.ref pg), some (.int (n : Int)), some (.ref I), x4, some (.ref Cl), some (vn (cnt (List.range rs.length) (clsB rs gd st))), x7, x8, x9, x10, x11, none] ∧ Same H H' ∧ H' Cl = some (.lst ((List.range rs.length).map fun p => vn (clsB rs gd st p))) ∧ st + 1 ≤ cnt (List.range rs.length) (clsB rs gd st) ∧ (0 < st → cnt (List.range rs.length) (clsB rs gd st) ≤ n))
          ⟨D, none, none, none, none, none, rfl, sD, hD1, hc0, fun z => absurd z (by decide)⟩ (fun st σ H' hst hq => ?_) (fun σ H' hq => ?_)
        · obtain ⟨Cl, x7, x8, x9, x10, x11, rfl, s1, hCl, hcn, hcn2⟩ := hq
          walk_at "go"
          intro N oN hN nN
          walk_at "go"
          refine ⟨szl (by show 0 ≤ 16777216; decide), fun L hL => ?_⟩
          have hNL : N ≠ L := nN.old.elim fun o e => ne_of_none e hL
          have hL' : H' L = none := by
            rw [upd_ne hNL.symm] at hL
            exact hL
          walk_at "go"
          have hm2 := s1 _ _ hm1
          have sI2 : Same H' (upd (upd H' N oN) L (.lst [])) := Same.put (same_laid hN) hL'
          have hNn : NDict P w (upd (upd H' N oN) L (.lst [])) N [] := nN.same (same_laid hL)
          have hL3 : (upd (upd H' N oN) L (.lst [])) L = some (.lst []) := upd_same
          generalize upd (upd H' N oN) L (.lst []) = H3 at *
          refine i_lenQ (sI2 _ _ hm2) ?_
          rw [hml]
          walk_at "go"
          refine ⟨by omega, by omega, ?_⟩
          rw [Int.toNat_natCast]
          refine rng0_for (fun i σ H4 => ∃ x10 x11, σ = [some (.ref pm), some (.ref pg), some (.int (n : Int)), some (.ref I), x4, some (.ref Cl), some (vn (cnt (List.range rs.length) (clsB rs gd st))), some (vn st), some (.ref N), some (.ref L), x10, x11, none] ∧ Same H' H4 ∧
              NDict P w H4 N (mapN (dd (((List.range rs.length).take i).map (sigB rs gd (st + 1)))) (numD (dd ((List.range rs.length).map (sigB rs gd (st + 1)))))) ∧ H4 L = some (.lst ((List.range i).map fun p => vn (clsB rs gd (st + 1) p))))
            ⟨x10, x11, rfl, sI2, hNn, hL3⟩ (fun i σ H4 hi hq => ?_) (fun σ H4 hq => ?_)
          · obtain ⟨y10, y11, rfl, s4, n4, hL4⟩ := hq
            have hr1 : (List.range rs.length)[i]? = some i := List.getElem?_range hi
            obtain ⟨t, vs, a, ha, hvl, hva, hia, ti, hi2⟩ := hm.at hi
            have hwr := hw.row_len hi
            have hCl4 := s4 _ _ hCl
            walk_at "go"
            refine i_ixL hCl4 (v := vn (clsB rs gd st i)) (atI_nat (map_at' (f := fun p => vn (clsB rs gd st p)) hr1)) ?_
            walk_at "go"
            refine i_ixQ (s4 _ _ (s1 _ _ ha)) hva ?_
            have ha4 := s4 _ _ (s1 _ _ hi2)
            refine seq_lc ha4 (fun D2 hD2 => ⟨fun q H5 => q ≤ (row rs i).length ∧ H5 = upd H4 D2 (.lst (((row rs i).take q).map fun t => vn (clsB rs gd st t))), ⟨Nat.zero_le _, rfl⟩, fun q H5 _ ⟨_, e⟩ => by rw [e, upd_ne (ne_of_none ha4 hD2)]; exact ha4, fun q v H5 hvq hq => ?_, fun H5 hq => ?_⟩)
            · obtain ⟨_, rfl⟩ := hq
              obtain ⟨u, hu, rfl⟩ := at_map hvq
              have hq' := (List.getElem?_eq_some_iff.mp hu).1
              have hul : u < rs.length := hw.row_lt hi (List.mem_of_getElem? hu)
              walk_at "go"
              refine i_ixL (by rw [upd_ne (ne_of_none hCl4 hD2)]; exact hCl4) (v := vn (clsB rs gd st u)) (atI_nat (map_at' (f := fun p => vn (clsB rs gd st p)) (List.getElem?_range hul))) ?_
              exact ⟨_, upd_same, szlt (by rw [List.length_map, List.length_take]; omega), hq', upd_lst (by rw [take_at hu, List.map_append]; rfl)⟩
            · obtain ⟨_, rfl⟩ := hq
              walk_at "go"
              refine i_tupleOfL upd_same (fun TT hTT => ?_)
              walk_at "go"
              refine ⟨sz2, fun p hp => ?_⟩
              have e : (List.map vn (row rs i)).length = (row rs i).length := List.length_map ..
              have ky : KeyAt (upd (upd (upd H4 D2 (.lst (((row rs i).take (List.map vn (row rs i)).length).map fun t => vn (clsB rs gd st t)))) TT (.tup (((row rs i).take (List.map vn (row rs i)).length).map fun t => vn (clsB rs gd st t)))) p (.tup [vn (clsB rs gd st i), .ref TT])) (sigB rs gd (st + 1) i) (.ref p) := by
                have k1 := keyA1 (H := upd (upd (upd H4 D2 (.lst (((row rs i).take (List.map vn (row rs i)).length).map fun t => vn (clsB rs gd st t)))) TT (.tup (((row rs i).take (List.map vn (row rs i)).length).map fun t => vn (clsB rs gd st t)))) p (.tup [vn (clsB rs gd st i), .ref TT])) (p := p) (q := TT) (c := clsB rs gd st i) (ts := (row rs i).map (clsB rs gd st)) upd_same (by
                  rw [upd_ne (ne_of_none upd_same hp), upd_same, e, List.take_length, List.map_map]
                  rfl)
                rw [List.map_map] at k1
                exact k1
              have s5 : Same H4 (upd (upd (upd H4 D2 (.lst (((row rs i).take (List.map vn (row rs i)).length).map fun t => vn (clsB rs gd st t)))) TT (.tup (((row rs i).take (List.map vn (row rs i)).length).map fun t => vn (clsB rs gd st t)))) p (.tup [vn (clsB rs gd st i), .ref TT])) := ((same_laid hD2).trans (same_laid hTT)).trans (same_laid hp)
              generalize upd (upd (upd H4 D2 (.lst (((row rs i).take (List.map vn (row rs i)).length).map fun t => vn (clsB rs gd st t)))) TT (.tup (((row rs i).take (List.map vn (row rs i)).length).map fun t => vn (clsB rs gd st t)))) p (.tup [vn (clsB rs gd st i), .ref TT]) = H5 at *
              walk_at "go"
              refine i_cut (fun σ H6 => σ = [some (.ref pm), some (.ref pg), some (.int (n : Int)), some (.ref I), x4, some (.ref Cl), some (vn (cnt (List.range rs.length) (clsB rs gd st))), some (vn st), some (.ref N), some (.ref L), some (vn i), some (.ref p), none] ∧ Same H' H6 ∧ KeyAt H6 (sigB rs gd (st + 1) i) (.ref p) ∧
                NDict P w H6 N (mapN (dd (((List.range rs.length).take (i + 1)).map (sigB rs gd (st + 1)))) (numD (dd ((List.range rs.length).map (sigB rs gd (st + 1)))))) ∧ H6 L = some (.lst ((List.range i).map fun p => vn (clsB rs gd (st + 1) p)))) ?_ (fun σ H6 hq => ?_)
              · have hk1 : ((List.range rs.length).take (i + 1)).map (sigB rs gd (st + 1)) = ((List.range rs.length).take i).map (sigB rs gd (st + 1)) ++ [sigB rs gd (st + 1) i] := by
                  rw [take_at hr1, List.map_append]
                  rfl
                have hl2 : (dd (((List.range rs.length).take i).map (sigB rs gd (st + 1)))).length ≤ 4000 := by
                  have := len_dd (((List.range rs.length).take i).map (sigB rs gd (st + 1)))
                  rw [List.length_map, List.length_take] at this
                  omega
                have n5 := n4.same s5
                walk_at "go"
                refine r_nnotin n5 ky ?_
                walk_at "go"
                by_cases hin' : sigB rs gd (st + 1) i ∈ dd (((List.range rs.length).take i).map (sigB rs gd (st + 1)))
                · rw [lookN_in hin']
                  refine iteNT ?_
                  walk_at "go"
                  refine ⟨rfl, s4.trans s5, ky, ?_, s5 _ _ hL4⟩
                  rw [hk1, dd_snoc, addN, if_pos hin']
                  exact n5
                · rw [lookN_no hin']
                  refine iteNF ?_
                  walk_at "go"
                  refine i_lenN n5 ?_
                  walk_at "go"
                  refine r_nput n5 ky (by rw [mapN_len]; omega) (fun o n6 => ?_)
                  walk_at "go"
                  refine ⟨rfl, Same.put (s4.trans s5) hN, ky.kp (tkp_upd n5.nottup), ?_, by rw [upd_ne hNL.symm]; exact s5 _ _ hL4⟩
                  rw [hk1, dd_snoc, addN, if_neg hin']
                  rw [putN_mapN hin' ?_] at n6
                  · exact n6
                  · show V.int _ = V.int _
                    rw [mapN_len]
                    have z2 := pl_take (map_at' (f := sigB rs gd (st + 1)) hr1) (by rw [← List.map_take]; exact hin')
                    rw [z2, ← List.map_take]
              · obtain ⟨rfl, s6, ky6, n6, hL6⟩ := hq
                walk_at "go"
                refine r_nget n6 ky6 (lookN_in (by rw [mem_dd, take_at hr1, List.map_append]; exact List.mem_append_right _ (List.mem_singleton.mpr rfl))) ?_
                walk_at "go"
                refine i_append hL6 (by rw [List.length_map, List.length_range]; omega) ?_
                walk_at "go"
                refine ⟨_, _, rfl, Same.put s6 hL', n6.upd hNL (by intro vs; rw [hL6]; intro z; cases z), ?_⟩
                rw [upd_same, List.range_succ, List.map_append]
                show _ = some (HO.lst (_ ++ [vn (clsB rs gd (st + 1) i)]))
                rw [clsB_eq]
                rfl
          · obtain ⟨y10, y11, rfl, s4, n4, hL4⟩ := hq
            rw [show (List.range rs.length).take rs.length = List.range rs.length by rw [List.take_of_length_le (by rw [List.length_range]; exact Nat.le_refl _)]] at n4
            walk_at "go"
            refine i_listOf (t := false) hL4 (fun L2 hL2 => ?_)
            have s5 : Same H4 (upd H4 L2 (.lst ((List.range rs.length).map fun p => vn (clsB rs gd (st + 1) p)))) := same_laid hL2
            have n5 := n4.same s5
            have hL5 : (upd H4 L2 (.lst ((List.range rs.length).map fun p => vn (clsB rs gd (st + 1) p)))) L2 = some (.lst ((List.range rs.length).map fun p => vn (clsB rs gd (st + 1) p))) := upd_same
            generalize upd H4 L2 (.lst ((List.range rs.length).map fun p => vn (clsB rs gd (st + 1) p))) = H5 at *
            have s05 := s1.trans (s4.trans s5)
            have e1 : (mapN (dd ((List.range rs.length).map (sigB rs gd (st + 1)))) (numD (dd ((List.range rs.length).map (sigB rs gd (st + 1)))))).length = cnt (List.range rs.length) (sigB rs gd (st + 1)) := by
              rw [mapN_len]
              rfl
            have hcl := cnt_len (List.range rs.length) (sigB rs gd (st + 1))
            rw [List.length_range] at hcl
            walk_at "go"
            refine i_lenN n5 ?_
            rw [e1]
            walk_at "go"
            refine iteD (fun hx => ?_) (fun hx => ?_)
            · walk_at "go"
              refine i_lenN n5 ?_
              rw [e1]
              exact k st H5 (.inl (by omega)) s05
            · walk_at "go"
              refine i_lenN n5 ?_
              rw [e1]
              walk_at "go"
              refine iteD (fun hx2 => ?_) (fun hx2 => ?_)
              · walk_at "go"
                refine i_lenN n5 ?_
                rw [e1]
                exact k st H5 (.inr (by omega)) s05
              walk_at "go"
              refine i_lenN n5 ?_
              rw [e1]
              walk_at "go"
              have hgr := cntB_grow rs gd st
              refine ⟨L2, some (vn st), some (.ref N), some (.ref L), y10, y11, ?_, s05, hL5, ?_⟩
              · rw [cntB_next]
                rfl
              · rw [cntB_next]
                exact ⟨by omega, fun _ => by omega⟩
        · obtain ⟨Cl, x7, x8, x9, x10, x11, rfl, s1, hCl, hcn, hcn2⟩ := hq
          have := hcn2 (by omega)
          omega
end
abbrev s_law_tells : Stmt := top 49
theorem sc_law_tells : FnScope ["alphabet", "machine", "reader", "inside", "room", "met_v", "order", "at", "p", "q", "t", "pair", "size"] ["alphabet", "machine", "reader"] (fnScope s_law_tells) := ⟨rfl, rfl, rfl, by decide +kernel, rfl, by decide +kernel, by decide +kernel⟩
def sp_law_tells (C : Addr) : Sp := fun vs H Q _ => ∃ (Z : AS) (al : List Nat) (q p : Addr) (rs : Rws) (gd : List Nat) (rs' : Rws) (gd' : List Nat), vs = [.str (SX.S al), .ref q, .ref p] ∧ Mach Z H q rs gd ∧ Rd C Z H p al rs' gd' ∧ AlOk al ∧ WFB al.length rs ∧ GOK rs.length gd ∧ WF al.length rs' ∧ GOK rs'.length gd' ∧
  LangEq al.length rs gd 0 rs' gd' 0 ∧ Canon al.length rs' gd' ∧ ∀ H', Same H H' → Q (.bl true) H'
section
variable {P : Program} {w : World} {K : PySem.W.Frag} {mg : Str → Option Value} {base : Heap} {C : Addr} {r : Er}
set_option maxHeartbeats 4000000 in
theorem ok_law_tells {f : Addr} {fd : FuncData} (F : Def K mg "_law_tells" s_law_tells f fd) (T : Txt K mg C r) (b : Binds K fd ["alphabet", "machine", "reader"] []) (c_law_is_reader : Cal P w K mg base 2 "_law_is_reader" (sp_law_is_reader C) []) (c_law_classes : Cal P w K mg base 1 "_law_classes" sp_law_classes []) (c_law_in_order : Cal P w K mg base 1 "_law_in_order" sp_law_in_order []) : Cal P w K mg base 3 "_law_tells" (sp_law_tells C) [] := by
  refine cal0 F b .nil sc_law_tells (fun vs H Q E h => ?_) (fun cdv A outer s H vs Q E hr h => ?_)
  · obtain ⟨_, _, _, _, _, _, _, _, rfl, _⟩ := h
    rfl
  · obtain ⟨Z, al, q, p, rs, gd, rs', gd', rfl, hq, hp, ha, hw, hg, hw', hg', hL, hC, k⟩ := h
    refine ⟨_, (pss_cons (ps_if (PW.pt (pw_or (pt_not (pt_val (pe_c c_law_is_reader hr (by decide) rfl (pa_cons (pv 2) (pa_cons (pv 0) pa_nil))))) (pw_or1 (pt_cmpR op_gt (pe_callB (lenK K rfl) (by rfl) T.b_len (by decide +kernel) (pa_cons (fldK K rfl (pv 2) rfl) pa_nil)) pe_int (nomark _))))) (pss_one (ps_ret pe_bl)) pss_nil)
        (pss_cons (ps_set (i := 3) sc_law_tells.nd rfl (by first | exact Or.inl rfl | exact Or.inr rfl) pe_dnewK)
        (pss_cons (ps_for PassesOwn.never rfl (seqK K rfl (pe_ix (ixK K rfl) (pv 1) pe_int (fun _ _ => rfl))) (pg_name (i := 4) sc_law_tells.nd rfl (by first | exact Or.inl rfl | exact Or.inr rfl))
        (pss_one (ps_dput (hu_of hr) (pv 3) (pv 4) pe_bl rfl)))
        (pss_cons (ps_set (i := 5) sc_law_tells.nd rfl (by first | exact Or.inl rfl | exact Or.inr rfl) (pe_disp1N hr.units (pe_tup (pa_cons pe_int (pa_cons pe_int pa_nil))) pe_bl))
        (pss_cons (ps_set (i := 6) sc_law_tells.nd rfl (by first | exact Or.inl rfl | exact Or.inr rfl) (pe_lst (pa_cons (pe_tup (pa_cons pe_int (pa_cons pe_int pa_nil))) pa_nil)))
        (C8.pss_cut (ps_for PassesOwn.never rfl (pi_range1 (by rfl) T.b_range (pa_cons (pe_op op_mul (pe_callB (lenK K rfl) (by rfl) T.b_len (by decide +kernel) (pa_cons (pe_ix (ixK K rfl) (pv 1) pe_int (fun _ _ => rfl)) pa_nil)) (pe_callB (lenK K rfl) (by rfl) T.b_len (by decide +kernel) (pa_cons (fldK K rfl (pv 2) rfl) pa_nil))) pa_nil)) (pg_name (i := 7) sc_law_tells.nd rfl (by first | exact Or.inl rfl | exact Or.inr rfl))
        (pss_cons (ps_if (pt_cmpR op_eq (pv 7) (pe_callB (lenK K rfl) (by rfl) T.b_len (by decide +kernel) (pa_cons (pv 6) pa_nil)) (nomark _)) (pss_one ps_break) pss_nil)
        (pss_cons (ps_asg (pe_ix (ixK K rfl) (pv 6) (pv 7) (fun _ _ => rfl)) (pg_tup rfl (pgs_cons (pg_name (i := 8) sc_law_tells.nd rfl (by first | exact Or.inl rfl | exact Or.inr rfl)) (pgs_cons (pg_name (i := 9) sc_law_tells.nd rfl (by first | exact Or.inl rfl | exact Or.inr rfl)) pgs_nil))))
        (pss_cons (ps_if (pt_cmpR op_ne (pe_cmp (pc_din (hu_of hr) (pv 8) (pv 3))) (pe_cmpR (inK K rfl) (pv 9) (fldK K rfl (pv 2) rfl) rfl) (nomark _)) (pss_one (ps_ret pe_bl)) pss_nil)
        (pss_one (ps_for PassesOwn.never rfl (pi_range1 (by rfl) T.b_range (pa_cons (pe_callB (lenK K rfl) (by rfl) T.b_len (by decide +kernel) (pa_cons (pv 0) pa_nil)) pa_nil)) (pg_name (i := 10) sc_law_tells.nd rfl (by first | exact Or.inl rfl | exact Or.inr rfl))
        (pss_cons (ps_set (i := 11) sc_law_tells.nd rfl (by first | exact Or.inl rfl | exact Or.inr rfl) (pe_tup (pa_cons (pe_ix (ixK K rfl) (pe_ix (ixK K rfl) (pe_ix (ixK K rfl) (pv 1) pe_int (fun _ _ => rfl)) (pv 8) (fun _ _ => rfl)) (pv 10) (fun _ _ => rfl)) (pa_cons (pe_ix (ixK K rfl) (pe_ix (ixK K rfl) (fldK K rfl (pv 2) rfl) (pv 9) (fun _ _ => rfl)) (pv 10) (fun _ _ => rfl)) pa_nil))))
        (pss_one (ps_if (pt_cmp (pc_nnotin hr.units (pv 11) (pv 5))) (pss_cons (ps_nput hr.units (pv 5) (pv 11) pe_bl rfl)
        (pss_one (ps_expr (bmK K rfl (pe_bm PySem.F.plainAttrs_list PySem.F.slot_list_append PySem.F.type_list_append mt_append (pv 6) (pa_cons (pv 11) pa_nil)))))) pss_nil)))))))))
        (pss_cons (ps_set (i := 12) sc_law_tells.nd rfl (by first | exact Or.inl rfl | exact Or.inr rfl) (pe_callB (lenK K rfl) (by rfl) T.b_len (by decide +kernel) (pa_cons (fldK K rfl (pv 2) rfl) pa_nil)))
        (pss_one (ps_ret (pe_and (pe_c c_law_in_order hr (by decide) rfl (pa_cons (fldK K rfl (pv 2) rfl) pa_nil)) (pe_one (pe_cmpR op_eq (pe_c c_law_classes hr (by decide) rfl (pa_cons (fldK K rfl (pv 2) rfl) (pa_cons (fldK K rfl (pv 2) rfl) (pa_cons (pv 12) pa_nil)))) (pv 12) (nomark _))))))))))))), ?_⟩
    walk_at "go"
    refine ⟨Z, p, al, rs', gd', rfl, hp, ha, hw', hg', fun H1 s1 => ?_⟩
    have hq := hq.same s1
    have hp := hp.same s1
    have hp0 := hp
    obtain ⟨hqZ, qm, qg, hq1, hq2, hq3⟩ := hq
    obtain ⟨_, tg, hq4⟩ := id hq3
    obtain ⟨hpZ, dx, pm, pg, hp1, hp2, hp3⟩ := hp
    have hgnd : gd.Nodup := hg.inc.imp fun z => Nat.ne_of_lt z
    have hgl : gd.length ≤ rs.length := nodup_le hgnd hg.lt
    have hle := hw.le
    have hle' := hw'.le
    have hpos := hw.pos
    have hpos' := hw'.pos
    walk_at "go"
    obtain ⟨vps, hvps, hvpl⟩ := hp2.len
    refine i_fldR hp1 T.cl T.nM (flds_mo al pm pg) ?_
    walk_at "go"
    refine ite_df (by show ¬ (60 : Int) < _; rw [hvpl]; omega) ?_
    walk_at "go"
    intro I hI
    walk_at "go"
    have sI0 : Same H1 (upd H1 I (.dK [])) := same_laid hI
    refine i_ixT (sI0 _ _ hq1) (i := 1) (v := .ref qg) rfl ?_
    refine seq_for (sI0 _ _ hq4) (fun i σ H' => ∃ x4, σ = [some (.str (SX.S al)), some (.ref q), some (.ref p), some (.ref I), x4, none, none, none, none, none, none, none, none] ∧ H' = upd H1 I (.dK (mapK (gd.take i) fun _ => .bl true))) ⟨none, rfl, rfl⟩ (fun i σ H' _ ⟨_, _, e⟩ => by rw [e]; exact (same_laid hI) _ _ hq4) (fun i v σ H' hv hq => ?_) (fun σ H' hq => ?_)
    · obtain ⟨x4, rfl, rfl⟩ := hq
      obtain ⟨u, hu, rfl⟩ := at_map hv
      have hnot : u ∉ gd.take i := fun z => by
        obtain ⟨q, hq1, hq2⟩ := List.mem_iff_getElem.mp z
        rw [List.length_take] at hq1
        rw [List.getElem_take] at hq2
        obtain ⟨hi1, hi2⟩ := List.getElem?_eq_some_iff.mp hu
        exact List.pairwise_iff_getElem.mp hgnd q i (by omega) hi1 (by omega) (hq2.trans hi2.symm)
      walk_at "go"
      refine r_dput upd_same (by rw [mapK_len, List.length_take]; omega) ?_
      exact ⟨_, rfl, by rw [upd_upd, putK_mapK hnot rfl, take_at hu]⟩
    · obtain ⟨x4, rfl, rfl⟩ := hq
      have sI : Same H1 (upd H1 I (.dK (mapK (gd.take (List.map vn gd).length) fun _ => .bl true))) := same_laid hI
      have hI1 : (upd H1 I (.dK (mapK (gd.take (List.map vn gd).length) fun _ => .bl true))) I = some (.dK (mapK gd fun _ => .bl true)) := by
        rw [upd_same, List.length_map, List.take_length]
      generalize upd H1 I (.dK (mapK (gd.take (List.map vn gd).length) fun _ => .bl true)) = H2 at *
      have hq1 := sI _ _ hq1
      have hq2 := hq2.same sI
      have hq3 := hq3.same sI
      have hq4 := sI _ _ hq4
      have hp1 := sI _ _ hp1
      have hp2 := hp2.same sI
      have hp3 := hp3.same sI
      have hp0 := hp0.same sI
      obtain ⟨tm, vm, hm1, hml⟩ := hq2.len
      obtain ⟨vp, hv1, hvl⟩ := hp2.len
      walk_at "go"
      refine RDispN fun M oM hM nM => ?_
      walk_at "go"
      refine ⟨sz2, fun T0 hT0 => ?_⟩
      have hTM : T0 ≠ M := nM.old.elim fun o e => (ne_of_none e hT0).symm
      have hT02 : H2 T0 = none := by
        rw [upd_ne hTM] at hT0
        exact hT0
      walk_at "go"
      have n1 := nM.same (same_laid (o := .tup [.int 0, .int 0]) hT0)
      refine ⟨pk (0, 0), keyP (a := 0) (b := 0) upd_same, n1, fun o' n2 => ?_⟩
      have s3 : Same H2 (upd (upd (upd H2 M oM) T0 (.tup [.int 0, .int 0])) M o') := Same.put (Same.put (same_laid hM) hT02) hM
      generalize upd (upd (upd H2 M oM) T0 (.tup [.int 0, .int 0])) M o' = H3 at *
      walk_at "go"
      refine ⟨sz2, fun T1 hT1 => ?_⟩
      walk_at "go"
      refine ⟨sz1, fun O hO => ?_⟩
      have hT12 : H2 T1 = none := same_free s3 hT1
      have s4 : Same H3 (upd (upd H3 T1 (.tup [.int 0, .int 0])) O (.lst [.ref T1])) := (same_laid hT1).trans (same_laid hO)
      have hO3 : H3 O = none := same_free (same_laid hT1) hO
      have hO2 : H2 O = none := same_free s3 hO3
      have n4 := n2.same s4
      have hO4 : (upd (upd H3 T1 (.tup [.int 0, .int 0])) O (.lst [.ref T1])) O = some (.lst ([T1].map V.ref)) := upd_same
      have hPr4 : Prs (upd (upd H3 T1 (.tup [.int 0, .int 0])) O (.lst [.ref T1])) [T1] [(0, 0)] := .cons (by rw [upd_ne (ne_of_none upd_same hO), upd_same]; rfl) .nil
      have s24 := s3.trans s4
      generalize upd (upd H3 T1 (.tup [.int 0, .int 0])) O (.lst [.ref T1]) = H4 at *
      walk_at "go"
      have hq10 := hq1
      have hm10 := hm1
      have hp10 := hp1
      have hv10 := hv1
      have hq1 := s24 _ _ hq1
      have hm1 := s24 _ _ hm1
      have hp1 := s24 _ _ hp1
      have hv1 := s24 _ _ hv1
      have hnm : rs.length * rs'.length ≤ 240000 := Nat.mul_le_mul hle hle'
      have hla : (SX.S al).length = al.length := SX.S_len al
      have ha3 := ha.le
      refine i_cut (fun σ H' => ∃ x7 x8 x9 x10 x11, σ = [some (.str (SX.S al)), some (.ref q), some (.ref p), some (.ref I), x4, some (.ref M), some (.ref O), x7, x8, x9, x10, x11, none] ∧ Same H2 H') ?_ (fun σ H' hq => ?_)
      · walk_at "go"
        refine i_lenQ hm1 ?_
        rw [hml]
        walk_at "go"
        refine i_fldR hp1 T.cl T.nM (flds_mo al pm pg) ?_
        walk_at "go"
        rw [hvl]
        rw [show ((rs.length : Int) * (rs'.length : Int)) = ((rs.length * rs'.length : Nat) : Int) from (Int.natCast_mul _ _).symm]
        refine ⟨by omega, by omega, ?_⟩
        rw [Int.toNat_natCast]
        refine rng0_for (fun i σ H5 => ∃ (x7 x8 x9 x10 x11 : Option V) (bs : List Addr) (prs : List (Nat × Nat)), σ = [some (.str (SX.S al)), some (.ref q), some (.ref p), some (.ref I), x4, some (.ref M), some (.ref O), x7, x8, x9, x10, x11, none] ∧ Same H2 H5 ∧ NDict P w H5 M (mapN (prs.map pk) fun _ => .bl true) ∧ H5 O = some (.lst (bs.map V.ref)) ∧ Prs H5 bs prs ∧ prs.Nodup ∧ (∀ pr ∈ prs, pr.1 < rs.length ∧ pr.2 < rs'.length ∧ LangEq al.length rs gd pr.1 rs' gd' pr.2) ∧ i ≤ prs.length)
          ⟨none, none, none, none, none, [T1], [(0, 0)], rfl, s24, n4, hO4, hPr4, by simp, fun pr hpr => by rw [List.mem_singleton.mp hpr]; exact ⟨hpos, hpos', hL⟩, Nat.zero_le _⟩ (fun i σ H5 hi hq => ?_) (fun σ H5 hq => ?_)
        · obtain ⟨x7, x8, x9, x10, x11, bs, prs, rfl, s5, n5, hO5, hPr, hnd, hprs, hil⟩ := hq
          have hbl : bs.length = prs.length := hPr.length
          walk_at "go"
          rw [List.length_map, hbl]
          refine iteD (fun hx => ?_) (fun hx => ?_)
          · walk_at "go"
            exact ⟨_, _, _, _, _, rfl, s5⟩
          · have hil' : i < prs.length := by omega
            obtain ⟨pr, hpr1⟩ : ∃ pr, prs[i]? = some pr := ⟨_, List.getElem?_eq_getElem hil'⟩
            obtain ⟨b, hb1, hb2⟩ := Paired.at1 hPr hpr1
            obtain ⟨hpa, hpb, hpl⟩ := hprs pr (List.mem_of_getElem? hpr1)
            walk_at "go"
            refine i_ixL hO5 (v := .ref b) (atI_nat (map_at hb1)) ?_
            walk_at "go"
            have hI5 := s5 _ _ hI1
            have hp15 := s5 _ _ hp10
            have hpg5 := s5 _ _ hp3.2
            have hv15 := s5 _ _ hv10
            have hq15 := s5 _ _ hq10
            have hm15 := s5 _ _ hm10
            refine r_din hI5 ?_
            walk_at "go"
            refine i_fldR hp15 T.cl T.nG (flds_go al pm pg) ?_
            refine i_inI (t := true) hpg5 ?_
            walk_at "go"
            have hhere := hpl.here
            refine ite_ndf ?_ ?_
            · by_cases hin : pr.1 ∈ gd
              · rw [valV_mapK_in hin, decide_eq_true (hhere.mp hin)]
                rfl
              · rw [valV_mapK_no hin, decide_eq_false (fun z => hin (hhere.mpr z))]
                rfl
            walk_at "go"
            refine i_lenS (szl (by omega)) ?_
            walk_at "go"
            refine ⟨by omega, by omega, ?_⟩
            rw [Int.toNat_natCast, hla]
            refine rng0_for (fun j σ H6 => ∃ (x10 x11 : Option V) (bs : List Addr) (prs : List (Nat × Nat)), σ = [some (.str (SX.S al)), some (.ref q), some (.ref p), some (.ref I), x4, some (.ref M), some (.ref O), some (vn i), some (vn pr.1), some (vn pr.2), x10, x11, none] ∧ Same H2 H6 ∧ NDict P w H6 M (mapN (prs.map pk) fun _ => .bl true) ∧ H6 O = some (.lst (bs.map V.ref)) ∧ Prs H6 bs prs ∧ prs.Nodup ∧ (∀ pr ∈ prs, pr.1 < rs.length ∧ pr.2 < rs'.length ∧ LangEq al.length rs gd pr.1 rs' gd' pr.2) ∧ i + 1 ≤ prs.length)
              ⟨x10, x11, bs, prs, rfl, s5, n5, hO5, hPr, hnd, hprs, hil'⟩ (fun j σ H6 hj hq => ?_) (fun σ H6 hq => ?_)
            · obtain ⟨y10, y11, bs, prs, rfl, s6, n6, hO6, hPr, hnd, hprs, hil⟩ := hq
              have hbl : bs.length = prs.length := hPr.length
              have hplen := pairs_len hnd fun pr hpr => ⟨(hprs pr hpr).1, (hprs pr hpr).2.1⟩
              obtain ⟨tr, vr, ar, hr1, hr2, hr3, hr4, tr5, hr6⟩ := (hq2.same s6).at hpa
              obtain ⟨vr', ar', hr1', hr2', hr3', hr4', hr6'⟩ := (hp2.same s6).at hpb
              have hq16 := s6 _ _ hq10
              have hp16 := s6 _ _ hp10
              walk_at "go"
              refine i_ixQ hr1 hr3 ?_
              walk_at "go"
              refine i_ixQ hr6 (vn_at (hw.stp_at hpa hj)) ?_
              walk_at "go"
              refine i_fldR hp16 T.cl T.nM (flds_mo al pm pg) ?_
              walk_at "go"
              refine i_ixT hr1' hr3' ?_
              walk_at "go"
              refine i_ixT hr6' (vn_at (hw'.stp_at hpb hj)) ?_
              walk_at "go"
              refine ⟨sz2, fun PT hPT => ?_⟩
              walk_at "go"
              have s7 := s6.trans (same_laid (o := .tup [.int (stp rs pr.1 j : Int), .int (stp rs' pr.2 j : Int)]) hPT)
              have n7 := n6.same (same_laid (o := .tup [.int (stp rs pr.1 j : Int), .int (stp rs' pr.2 j : Int)]) hPT)
              have hO7 : (upd H6 PT (.tup [.int (stp rs pr.1 j : Int), .int (stp rs' pr.2 j : Int)])) O = some (.lst (bs.map V.ref)) := by rw [upd_ne (ne_of_none hO6 hPT)]; exact hO6
              have hPr7 := hPr.same (same_laid (o := .tup [.int (stp rs pr.1 j : Int), .int (stp rs' pr.2 j : Int)]) hPT)
              have hT7 : (upd H6 PT (.tup [.int (stp rs pr.1 j : Int), .int (stp rs' pr.2 j : Int)])) PT = some (.tup [.int (stp rs pr.1 j : Int), .int (stp rs' pr.2 j : Int)]) := upd_same
              generalize upd H6 PT (.tup [.int (stp rs pr.1 j : Int), .int (stp rs' pr.2 j : Int)]) = H7 at *
              have ky : KeyAt H7 (pk (stp rs pr.1 j, stp rs' pr.2 j)) (.ref PT) := keyP hT7
              refine r_nnotin n7 ky ?_
              walk_at "go"
              by_cases hin : (stp rs pr.1 j, stp rs' pr.2 j) ∈ prs
              · rw [lookN_in (pk_mem.mpr hin)]
                refine iteNT ?_
                walk_at "go"
                exact ⟨_, _, bs, prs, rfl, s7, n7, hO7, hPr7, hnd, hprs, hil⟩
              · have hnk : pk (stp rs pr.1 j, stp rs' pr.2 j) ∉ prs.map pk := fun z => hin (pk_mem.mp z)
                rw [lookN_no hnk]
                refine iteNF ?_
                walk_at "go"
                refine r_nput n7 ky (by rw [mapN_len, List.length_map]; omega) (fun o n8 => ?_)
                rw [putN_mapN hnk rfl] at n8
                have hMO : M ≠ O := n7.notlst hO7
                walk_at "go"
                refine i_append (xs := bs.map V.ref) (by rw [upd_ne hMO.symm]; exact hO7) (by rw [List.length_map, hbl]; omega) ?_
                walk_at "go"
                refine ⟨_, _, bs ++ [PT], prs ++ [(stp rs pr.1 j, stp rs' pr.2 j)], rfl, Same.put (Same.put s7 hM) hO2, ?_, by rw [upd_same, List.map_append]; rfl, ?_, ?_, fun pr' hpr' => ?_, by simp; omega⟩
                · rw [List.map_append]
                  exact n8.upd hMO (by intro vs; rw [upd_ne hMO.symm, hO7]; intro z; cases z)
                · refine U.Paired.snoc ((hPr7.upd n7.nottup).upd (by intro vs; rw [upd_ne hMO.symm, hO7]; intro z; cases z)) ?_
                  have h1 : PT ≠ O := fun e => by rw [e, hO7] at hT7; cases hT7
                  have h2 : PT ≠ M := fun e => n7.nottup _ (by rw [← e]; exact hT7)
                  rw [upd_ne h1, upd_ne h2]
                  exact hT7
                · rw [List.nodup_append]
                  exact ⟨hnd, by simp, fun x hx y hy e => hin (by rw [← List.mem_singleton.mp hy, ← e]; exact hx)⟩
                · rcases List.mem_append.mp hpr' with h | h
                  · exact hprs pr' h
                  · rw [List.mem_singleton.mp h]
                    exact ⟨hw.stp_lt hpa hj, hw'.stp_lt hpb hj, hpl.step hj⟩
            · obtain ⟨y10, y11, bs, prs, rfl, s6, n6, hO6, hPr, hnd, hprs, hil⟩ := hq
              exact ⟨_, _, _, _, _, bs, prs, rfl, s6, n6, hO6, hPr, hnd, hprs, hil⟩
        · obtain ⟨x7, x8, x9, x10, x11, bs, prs, rfl, s5, _⟩ := hq
          exact ⟨_, _, _, _, _, rfl, s5⟩
      · obtain ⟨x7, x8, x9, x10, x11, rfl, s5⟩ := hq
        have hp5 := hp0.same s5
        obtain ⟨_, dx5, pm5, pg5, hp51, hp52, hp53⟩ := id hp5
        obtain ⟨vs5, hv5, hvl5⟩ := hp52.len
        walk_at "go"
        refine i_fldR hp51 T.cl T.nM (flds_mo al pm5 pg5) ?_
        walk_at "go"
        rw [hvl5]
        refine i_fldR hp51 T.cl T.nM (flds_mo al pm5 pg5) ?_
        walk_at "go"
        refine ⟨Z, pm5, rs', al.length, rfl, hp52, hw', hC.ord, fun H6 s6 => ?_⟩
        walk_at "go"
        refine i_fldR (s6 _ _ hp51) T.cl T.nM (flds_mo al pm5 pg5) ?_
        walk_at "go"
        refine i_fldR (s6 _ _ hp51) T.cl T.nG (flds_go al pm5 pg5) ?_
        walk_at "go"
        refine ⟨Z, pm5, pg5, rs', gd', al.length, rs'.length, rfl, (hp52.same s6).rows, (hp53.same s6).ints, hw', hg', by omega, fun st H7 hst s7 => ?_⟩
        have hst : cnt (List.range rs'.length) (sigB rs' gd' (st + 1)) = cnt (List.range rs'.length) (clsB rs' gd' st) := hst.elim id fun z => by
          have := cnt_len (List.range rs'.length) (sigB rs' gd' (st + 1))
          rw [List.length_range] at this
          omega
        rw [hC.classes hw' hst]
        walk_at "go"
        rw [decide_eq_true rfl]
        exact k _ ((((s1.trans sI).trans s5).trans s6).trans s7)
end
abbrev s_law_holds : Stmt := top 53
theorem sc_law_holds : FnScope ["alphabet", "machine", "told"] ["alphabet", "machine", "told"] (fnScope s_law_holds) := ⟨rfl, rfl, rfl, by decide +kernel, rfl, by decide +kernel, by decide +kernel⟩
/-- a reader that is told: the least one of what a machine tells -/
def TellsR (C : Addr) (H : Hp) (t : Addr) (al : List Nat) (rs : Rws) (gd : List Nat) : Prop := ∃ (Z : AS) (A : Rws) (gA : List Nat), Rd C Z H t al A gA ∧ WF al.length A ∧ GOK A.length gA ∧ LangEq al.length rs gd 0 A gA 0 ∧ Canon al.length A gA
def manyRoom : List Str := ["value", "many 'room'"]
def sp_law_holds (C : Addr) : Sp := fun vs H Q _ => ∃ (Z : AS) (al : List Nat) (q t : Addr) (rs : Rws) (gd : List Nat) (W0 : Unit), vs = [.str (SX.S al), .ref q, .ref t] ∧ Mach Z H q rs gd ∧ AlOk al ∧ WFB al.length rs ∧ GOK rs.length gd ∧
  (TellsR C H t al rs gd ∨ (H t = some (.lst (manyRoom.map V.str)) ∧ ∀ k, cnt (List.range rs.length) (sigB rs gd (k + 1)) = cnt (List.range rs.length) (clsB rs gd k) → 60 < cnt (List.range rs.length) (sigB rs gd (k + 1)))) ∧ ∀ H', Same H H' → Q (.bl true) H'
theorem manyRoom_ok : ∀ z ∈ manyRoom, PyData.strOk z = true := by decide +kernel
section
variable {P : Program} {w : World} {K : PySem.W.Frag} {mg : Str → Option Value} {base : Heap} {C : Addr} {r : Er}
set_option maxHeartbeats 4000000 in
theorem ok_law_holds {f : Addr} {fd : FuncData} (F : Def K mg "_law_holds" s_law_holds f fd) (T : Txt K mg C r) (b : Binds K fd ["alphabet", "machine", "told"] []) (c_law_classes : Cal P w K mg base 1 "_law_classes" sp_law_classes []) (c_law_tells : Cal P w K mg base 3 "_law_tells" (sp_law_tells C) []) : Cal P w K mg base 4 "_law_holds" (sp_law_holds C) [] := by
  refine cal0 F b .nil sc_law_holds (fun vs H Q E h => ?_) (fun cdv A outer s H vs Q E hr h => ?_)
  · obtain ⟨_, _, _, _, _, _, _, rfl, _⟩ := h
    rfl
  · obtain ⟨Z, al, q, t, rs, gd, W0, rfl, hq, ha, hw, hg, ht, k⟩ := h
    refine ⟨_, (pss_cons (ps_if (pt_val (pe_callB (isiK K rfl) (by rfl) T.b_isinstance (by decide +kernel) (pa_cons (pv 2) (pa_cons (pe_bltn (v := .ty "list") (u := .type "list") (by rfl) T.b_list (by decide +kernel) rfl) pa_nil)))) (pss_one (ps_ret (pe_and (pe_cmpR (eqDK K rfl hr.units) (pv 2) (pe_lst (pa_cons pe_str (pa_cons pe_str pa_nil))) (nomark _)) (pe_one (pe_cmpR op_gt (pe_c c_law_classes hr (by decide) rfl (pa_cons (pe_ix (ixK K rfl) (pv 1) pe_int (fun _ _ => rfl)) (pa_cons (pe_ix (ixK K rfl) (pv 1) pe_int (fun _ _ => rfl)) (pa_cons pe_int pa_nil)))) pe_int (nomark _)))))) pss_nil)
        (pss_one (ps_ret (pe_c c_law_tells hr (by decide) rfl (pa_cons (pv 0) (pa_cons (pv 1) (pa_cons (pv 2) pa_nil))))))), ?_⟩
    walk_at "go"
    rcases ht with ⟨Z', A, gA, hR, hwA, hgA, hL, hC⟩ | ⟨hl, hcl⟩
    · obtain ⟨_, dx, pm, pg, ht1, _⟩ := id hR
      refine ⟨.ref t, .ty "list", .ref C, .type "list", false, rfl, .ty _, .base (.ins ht1 T.ins.cl T.ins.ha T.ins.hn T.ins.htk T.ins.hm), T.kl, ?_⟩
      walk_at "go"
      refine ⟨fun _ => False, al, q, t, rs, gd, A, gA, rfl, hq.weak fun _ z => z.elim, hR.weak fun _ z => z.elim, ha, hw, hg, hwA, hgA, hL, hC, fun H1 s1 => ?_⟩
      walk_at "go"
      exact k H1 s1
    · refine ⟨.ref t, .ty "list", .type "list", .type "list", true, rfl, .ty _, .base (.lst hl), kit_ty (by decide +kernel), ?_⟩
      walk_at "go"
      refine ⟨sz2, fun G hG => ?_⟩
      have sG : Same H (upd H G (.lst (manyRoom.map V.str))) := same_laid hG
      refine i_eqStrsL manyRoom_ok manyRoom_ok (sG _ _ hl) upd_same ?_
      obtain ⟨_, qm, qg, hq1, hq2, hq3⟩ := hq.same sG
      walk_at "go"
      refine ite_dt rfl ?_
      walk_at "go"
      refine ⟨Z, qm, qg, rs, gd, al.length, 60, rfl, hq2, hq3, hw, hg, by omega, fun k1 H1 hk1 s1 => ?_⟩
      walk_at "go"
      have h60 : 60 < cnt (List.range rs.length) (sigB rs gd (k1 + 1)) := hk1.elim (hcl k1) id
      rw [decide_eq_true (show ((cnt (List.range rs.length) (sigB rs gd (k1 + 1)) : Nat) : Int) > 60 by omega)]
      exact k H1 (sG.trans s1)
end
abbrev s_law_some : Stmt := top 55
theorem sc_law_some : FnScope ["source", "size", "last", "way", "p"] ["source", "size", "last"] (fnScope s_law_some) := ⟨rfl, rfl, rfl, by decide +kernel, rfl, by decide +kernel, by decide +kernel⟩
def sp_law_some : Sp := fun vs H Q _ => ∃ (S : AS) (a : Addr) (n l : Nat), vs = [.ref a, .int (n : Int), .int (l : Int)] ∧ S a ∧ Srcs S H ∧ 0 < n ∧ n ≤ 60 ∧ l < n ∧ ∀ G gd H', Ev S H H' → Ints S H' G gd → GOK n gd → Q (.ref G) H'
theorem gok_one {n x : Nat} (h : x < n) : GOK n [x] := ⟨by simp, fun z hz => by rw [List.mem_singleton.mp hz]; exact h⟩
section
variable {P : Program} {w : World} {K : PySem.W.Frag} {mg : Str → Option Value} {base : Heap} {C : Addr} {r : Er}
set_option maxHeartbeats 4000000 in
theorem ok_law_some {f : Addr} {fd : FuncData} (F : Def K mg "_law_some" s_law_some f fd) (T : Txt K mg C r) (b : Binds K fd ["source", "size", "last"] []) (c_law_pick : Cal P w K mg base 1 "_law_pick" sp_law_pick []) : Cal P w K mg base 2 "_law_some" (sp_law_some) [] := by
  refine cal0 F b .nil sc_law_some (fun vs H Q E h => ?_) (fun cdv A outer s H vs Q E hr h => ?_)
  · obtain ⟨_, _, _, _, rfl, _⟩ := h
    rfl
  · obtain ⟨S, a, n, l, rfl, ha, hS, hn0, hn, hl, k⟩ := h
    refine ⟨_, (pss_cons (ps_set (i := 3) sc_law_some.nd rfl (by first | exact Or.inl rfl | exact Or.inr rfl) (pe_c c_law_pick hr (by decide) rfl (pa_cons (pv 0) (pa_cons pe_int pa_nil))))
        (pss_cons (ps_if (pt_cmpR op_eq (pv 3) pe_int (nomark _)) (pss_one (ps_ret (pe_lst (pa_cons (pv 2) pa_nil)))) pss_nil)
        (pss_cons (ps_if (pt_cmpR op_eq (pv 3) pe_int (nomark _)) (pss_one (ps_ret (pe_lc (own := [("p", 4)]) rfl sc_law_some.nd (pi_range1 (by rfl) T.b_range (pa_cons (pv 1) pa_nil)) (blkOk_by (by kernel_rfl)) (fun _ _ _ _ _ => (pg_name (i := 4) sc_law_some.nd rfl (by first | exact Or.inl rfl | exact Or.inr rfl))) (fun _ _ _ _ _ => pts_nil) (fun _ _ _ _ _ => (pv 4))))) pss_nil)
        (pss_cons (ps_if (pt_cmpR op_eq (pv 3) pe_int (nomark _)) (pss_one (ps_ret (pe_lc (own := [("p", 4)]) rfl sc_law_some.nd (pi_range1 (by rfl) T.b_range (pa_cons (pv 1) pa_nil)) (blkOk_by (by kernel_rfl)) (fun _ _ _ _ _ => (pg_name (i := 4) sc_law_some.nd rfl (by first | exact Or.inl rfl | exact Or.inr rfl))) (fun _ _ _ _ _ => (pts_one (pt_cmpR op_eq (pe_c c_law_pick hr (by decide) rfl (pa_cons (pv 0) (pa_cons pe_int pa_nil))) pe_int (nomark _)))) (fun _ _ _ _ _ => (pv 4))))) pss_nil)
        (pss_one (ps_ret (pe_lst (pa_cons (pe_c c_law_pick hr (by decide) rfl (pa_cons (pv 0) (pa_cons (pv 1) pa_nil))) pa_nil)))))))), ?_⟩
    walk_at "go"
    refine ⟨S, a, _, rfl, ha, hS, by omega, by omega, fun d H1 g0 g1 e1 => ?_⟩
    walk_at "go"
    have hS1 := e1.src
    refine iteD (fun hx => ?_) (fun hx => ?_)
    · walk_at "go"
      refine ⟨sz1, fun G hG => ?_⟩
      exact k G [l] _ (e1.trans (.laid hS1 hG)) ⟨hS1.notin hG, false, upd_same⟩ (gok_one hl)
    walk_at "go"
    refine iteD (fun hx => ?_) (fun hx => ?_)
    · walk_at "go"
      refine ⟨by omega, by omega, fun G hG => ?_⟩
      rw [Int.toNat_natCast]
      refine rng0_lc (fun i H' => i ≤ n ∧ H' = upd H1 G (.lst ((List.range i).map vn))) ⟨Nat.zero_le _, rfl⟩ (fun i H' hi hz => ?_) (fun H' hz => ?_)
      · obtain ⟨_, rfl⟩ := hz
        walk_at "go"
        exact ⟨_, upd_same, szlt (by rw [List.length_map, List.length_range]; omega), hi, upd_lst (by rw [List.range_succ, List.map_append]; rfl)⟩
      · obtain ⟨_, rfl⟩ := hz
        exact k G (List.range n) _ (e1.trans (.laid hS1 hG)) ⟨hS1.notin hG, false, upd_same⟩ ⟨range_inc n, fun x hx => List.mem_range.mp hx⟩
    walk_at "go"
    refine iteD (fun hx => ?_) (fun hx => ?_)
    · walk_at "go"
      refine ⟨by omega, by omega, fun G hG => ?_⟩
      rw [Int.toNat_natCast]
      refine rng0_lc (fun i H' => Ev S H1 H' ∧ ∃ gd : List Nat, H' G = some (.lst (gd.map vn)) ∧ gd.Pairwise (· < ·) ∧ (∀ x ∈ gd, x < i) ∧ gd.length ≤ i) ⟨.laid hS1 hG, [], upd_same, .nil, by simp, Nat.le_refl _⟩ (fun i H' hi hz => ?_) (fun H' hz => ?_)
      · obtain ⟨e2, gd, hG2, hp, hlt, hle⟩ := hz
        walk_at "go"
        refine ⟨S, a, _, rfl, ha, e2.src, by omega, by omega, fun x H3 h3 h4 e3 => ?_⟩
        walk_at "go"
        refine iteD (fun hb => ?_) (fun hb => ?_)
        · walk_at "go"
          refine ⟨_, e3.at (hS1.notin hG) hG2, szlt (by rw [List.length_map]; omega), Ev.put hS1 (e2.trans e3) hG, gd ++ [i], by rw [upd_same, List.map_append]; rfl, ?_, fun y hy => ?_, by simp; omega⟩
          · rw [List.pairwise_append]
            exact ⟨hp, by simp, fun y hy z hz => by rw [List.mem_singleton.mp hz]; exact hlt y hy⟩
          · rcases List.mem_append.mp hy with hy | hy
            · have := hlt y hy; omega
            · rw [List.mem_singleton.mp hy]; omega
        · exact ⟨e2.trans e3, gd, e3.at (hS1.notin hG) hG2, hp, fun y hy => by have := hlt y hy; omega, by omega⟩
      · obtain ⟨e2, gd, hG2, hp, hlt, hle⟩ := hz
        exact k G gd _ (e1.trans e2) ⟨hS1.notin hG, false, hG2⟩ ⟨hp, hlt⟩
    walk_at "go"
    refine ⟨S, a, _, rfl, ha, hS1, by omega, by omega, fun y H2 g2 g3 e2 => ?_⟩
    obtain ⟨y, rfl⟩ := Int.eq_ofNat_of_zero_le g2
    walk_at "go"
    refine ⟨sz1, fun G hG => ?_⟩
    exact k G [y] _ ((e1.trans e2).trans (.laid e2.src hG)) ⟨e2.src.notin hG, false, upd_same⟩ (gok_one (by omega))
end
abbrev s_law_rings : Stmt := top 56
theorem sc_law_rings : FnScope ["source", "many", "menu", "a", "b", "first", "second", "tail", "p", "t", "q"] ["source", "many"] (fnScope s_law_rings) := ⟨rfl, rfl, rfl, by decide +kernel, rfl, by decide +kernel, by decide +kernel⟩
def menu1 : List (List Int) := [[6, 10], [7, 9], [8, 8], [5, 12], [9, 6], [4, 15], [20, 3], [2, 31], [10, 6], [7, 8]]
def menu2 : List (List Int) := [[12, 5, 1], [12, 5, 0], [7, 9, 0], [15, 4, 1], [20, 3, 0], [8, 7, 2], [4, 15, 1], [19, 3, 3], [5, 12, 1]]
theorem menu1_ok : ∀ xs ∈ menu1, ∃ a b : Nat, xs = [(a : Int), (b : Int)] ∧ 0 < a ∧ 0 < b ∧ a ≤ 31 ∧ b ≤ 31 := by
  intro xs h
  simp only [menu1, List.mem_cons, List.not_mem_nil, or_false] at h
  rcases h with h | h | h | h | h | h | h | h | h | h <;> subst h
  · exact ⟨6, 10, rfl, by decide⟩
  · exact ⟨7, 9, rfl, by decide⟩
  · exact ⟨8, 8, rfl, by decide⟩
  · exact ⟨5, 12, rfl, by decide⟩
  · exact ⟨9, 6, rfl, by decide⟩
  · exact ⟨4, 15, rfl, by decide⟩
  · exact ⟨20, 3, rfl, by decide⟩
  · exact ⟨2, 31, rfl, by decide⟩
  · exact ⟨10, 6, rfl, by decide⟩
  · exact ⟨7, 8, rfl, by decide⟩
theorem menu2_ok : ∀ xs ∈ menu2, ∃ a b c : Nat, xs = [(a : Int), (b : Int), (c : Int)] ∧ 0 < a ∧ 0 < b ∧ a ≤ 20 ∧ b ≤ 15 ∧ c ≤ 3 := by
  intro xs h
  simp only [menu2, List.mem_cons, List.not_mem_nil, or_false] at h
  rcases h with h | h | h | h | h | h | h | h | h <;> subst h
  · exact ⟨12, 5, 1, rfl, by decide⟩
  · exact ⟨12, 5, 0, rfl, by decide⟩
  · exact ⟨7, 9, 0, rfl, by decide⟩
  · exact ⟨15, 4, 1, rfl, by decide⟩
  · exact ⟨20, 3, 0, rfl, by decide⟩
  · exact ⟨8, 7, 2, rfl, by decide⟩
  · exact ⟨4, 15, 1, rfl, by decide⟩
  · exact ⟨19, 3, 3, rfl, by decide⟩
  · exact ⟨5, 12, 1, rfl, by decide⟩
def sp_law_rings : Sp := fun vs H Q _ => ∃ (S : AS) (a : Addr) (m : Nat), vs = [.ref a, .int (m : Int)] ∧ S a ∧ Srcs S H ∧ 0 < m ∧ m ≤ 3 ∧ ∀ p u v A gA B gB H', Ev S H H' → ¬ S p → H' p = some (.lst [.ref u, .ref v]) → Mach S H' u A gA → WF m A → GOK A.length gA → Mach S H' v B gB → WF m B → GOK B.length gB → Q (.ref p) H'
section
variable {P : Program} {w : World} {K : PySem.W.Frag} {mg : Str → Option Value} {base : Heap} {C : Addr} {r : Er}
set_option maxHeartbeats 4000000 in
theorem ok_law_rings {f : Addr} {fd : FuncData} (F : Def K mg "_law_rings" s_law_rings f fd) (T : Txt K mg C r) (b : Binds K fd ["source", "many"] []) (c_law_pick : Cal P w K mg base 1 "_law_pick" sp_law_pick []) (c_law_some : Cal P w K mg base 2 "_law_some" sp_law_some []) : Cal P w K mg base 3 "_law_rings" (sp_law_rings) [] := by
  refine cal0 F b .nil sc_law_rings (fun vs H Q E h => ?_) (fun cdv A outer s H vs Q E hr h => ?_)
  · obtain ⟨_, _, _, rfl, _⟩ := h
    rfl
  · obtain ⟨S, a, m, rfl, ha, hS, hm0, hm, k⟩ := h
    refine ⟨_, (C8.pss_cut (ps_if (PW.pt (pw_and (pt_cmpR op_gt (pv 1) pe_int (nomark _)) (pw_and1 (pt_cmpR op_eq (pe_c c_law_pick hr (by decide) rfl (pa_cons (pv 0) (pa_cons pe_int pa_nil))) pe_int (nomark _))))) (pss_cons (ps_set (i := 2) sc_law_rings.nd rfl (by first | exact Or.inl rfl | exact Or.inr rfl) (pe_lst (pa_cons (pe_tup (pa_cons pe_int (pa_cons pe_int pa_nil))) (pa_cons (pe_tup (pa_cons pe_int (pa_cons pe_int pa_nil))) (pa_cons (pe_tup (pa_cons pe_int (pa_cons pe_int pa_nil))) (pa_cons (pe_tup (pa_cons pe_int (pa_cons pe_int pa_nil))) (pa_cons (pe_tup (pa_cons pe_int (pa_cons pe_int pa_nil))) (pa_cons (pe_tup (pa_cons pe_int (pa_cons pe_int pa_nil))) (pa_cons (pe_tup (pa_cons pe_int (pa_cons pe_int pa_nil))) (pa_cons (pe_tup (pa_cons pe_int (pa_cons pe_int pa_nil))) (pa_cons (pe_tup (pa_cons pe_int (pa_cons pe_int pa_nil))) (pa_cons (pe_tup (pa_cons pe_int (pa_cons pe_int pa_nil))) pa_nil))))))))))))
        (pss_cons (ps_asg (pe_ix (ixK K rfl) (pv 2) (pe_c c_law_pick hr (by decide) rfl (pa_cons (pv 0) (pa_cons (pe_callB (lenK K rfl) (by rfl) T.b_len (by decide +kernel) (pa_cons (pv 2) pa_nil)) pa_nil))) (fun _ _ => rfl)) (pg_tup rfl (pgs_cons (pg_name (i := 3) sc_law_rings.nd rfl (by first | exact Or.inl rfl | exact Or.inr rfl)) (pgs_cons (pg_name (i := 4) sc_law_rings.nd rfl (by first | exact Or.inl rfl | exact Or.inr rfl)) pgs_nil))))
        (pss_cons (ps_setLc (i := 5) (own := [("p", 8)]) rfl sc_law_rings.nd rfl rfl (sw_true rfl rfl rfl (by decide +kernel)) (pi_range1 (by rfl) T.b_range (pa_cons (pv 3) pa_nil)) (blkOk_by (by kernel_rfl)) (fun _ _ _ _ _ => (pg_name (i := 8) sc_law_rings.nd rfl (by first | exact Or.inl rfl | exact Or.inr rfl))) (fun _ _ _ _ _ => pts_nil) (fun _ _ _ _ _ => (pe_lc (own := [("t", 9)]) rfl sc_law_rings.nd (pi_range1 (by rfl) T.b_range (pa_cons (pv 1) pa_nil)) (blkOk_by (by kernel_rfl)) (fun _ _ _ _ _ => (pg_name (i := 9) sc_law_rings.nd rfl (by first | exact Or.inl rfl | exact Or.inr rfl))) (fun _ _ _ _ _ => pts_nil) (fun _ _ _ _ _ => (pe_ifExp (pt_cmpR op_eq (pv 9) pe_int (nomark _)) (pe_op op_mod (pe_callTy int1 (by rfl) T.b_int (by decide +kernel) (pa_cons (pe_op op_add (pv 8) pe_int) pa_nil)) (pv 3)) (pv 8))))))
        (pss_cons (ps_setLc (i := 6) (own := [("q", 10)]) rfl sc_law_rings.nd rfl rfl (sw_true rfl rfl rfl (by decide +kernel)) (pi_range1 (by rfl) T.b_range (pa_cons (pv 4) pa_nil)) (blkOk_by (by kernel_rfl)) (fun _ _ _ _ _ => (pg_name (i := 10) sc_law_rings.nd rfl (by first | exact Or.inl rfl | exact Or.inr rfl))) (fun _ _ _ _ _ => pts_nil) (fun _ _ _ _ _ => (pe_lc (own := [("t", 9)]) rfl sc_law_rings.nd (pi_range1 (by rfl) T.b_range (pa_cons (pv 1) pa_nil)) (blkOk_by (by kernel_rfl)) (fun _ _ _ _ _ => (pg_name (i := 9) sc_law_rings.nd rfl (by first | exact Or.inl rfl | exact Or.inr rfl))) (fun _ _ _ _ _ => pts_nil) (fun _ _ _ _ _ => (pe_ifExp (pt_cmpR op_eq (pv 9) (pe_op op_sub (pv 1) pe_int) (nomark _)) (pe_op op_mod (pe_callTy int1 (by rfl) T.b_int (by decide +kernel) (pa_cons (pe_op op_add (pv 10) pe_int) pa_nil)) (pv 4)) (pv 10))))))
        (pss_one (ps_ret (pe_lst (pa_cons (pe_tup (pa_cons (pv 5) (pa_cons (pe_c c_law_some hr (by decide) rfl (pa_cons (pv 0) (pa_cons (pv 3) (pa_cons (pe_op op_sub (pv 3) pe_int) pa_nil)))) pa_nil))) (pa_cons (pe_tup (pa_cons (pv 6) (pa_cons (pe_c c_law_some hr (by decide) rfl (pa_cons (pv 0) (pa_cons (pv 4) (pa_cons pe_int pa_nil)))) pa_nil))) pa_nil))))))))) pss_nil)
        (pss_cons (ps_set (i := 2) sc_law_rings.nd rfl (by first | exact Or.inl rfl | exact Or.inr rfl) (pe_lst (pa_cons (pe_tup (pa_cons pe_int (pa_cons pe_int (pa_cons pe_int pa_nil)))) (pa_cons (pe_tup (pa_cons pe_int (pa_cons pe_int (pa_cons pe_int pa_nil)))) (pa_cons (pe_tup (pa_cons pe_int (pa_cons pe_int (pa_cons pe_int pa_nil)))) (pa_cons (pe_tup (pa_cons pe_int (pa_cons pe_int (pa_cons pe_int pa_nil)))) (pa_cons (pe_tup (pa_cons pe_int (pa_cons pe_int (pa_cons pe_int pa_nil)))) (pa_cons (pe_tup (pa_cons pe_int (pa_cons pe_int (pa_cons pe_int pa_nil)))) (pa_cons (pe_tup (pa_cons pe_int (pa_cons pe_int (pa_cons pe_int pa_nil)))) (pa_cons (pe_tup (pa_cons pe_int (pa_cons pe_int (pa_cons pe_int pa_nil)))) (pa_cons (pe_tup (pa_cons pe_int (pa_cons pe_int (pa_cons pe_int pa_nil)))) pa_nil)))))))))))
        (pss_cons (ps_asg (pe_ix (ixK K rfl) (pv 2) (pe_c c_law_pick hr (by decide) rfl (pa_cons (pv 0) (pa_cons (pe_callB (lenK K rfl) (by rfl) T.b_len (by decide +kernel) (pa_cons (pv 2) pa_nil)) pa_nil))) (fun _ _ => rfl)) (pg_tup rfl (pgs_cons (pg_name (i := 3) sc_law_rings.nd rfl (by first | exact Or.inl rfl | exact Or.inr rfl)) (pgs_cons (pg_name (i := 4) sc_law_rings.nd rfl (by first | exact Or.inl rfl | exact Or.inr rfl)) (pgs_cons (pg_name (i := 7) sc_law_rings.nd rfl (by first | exact Or.inl rfl | exact Or.inr rfl)) pgs_nil)))))
        (pss_cons (ps_setLc (i := 5) (own := [("p", 8)]) rfl sc_law_rings.nd rfl rfl (sw_true rfl rfl rfl (by decide +kernel)) (pi_range1 (by rfl) T.b_range (pa_cons (pe_op op_add (pv 3) (pv 7)) pa_nil)) (blkOk_by (by kernel_rfl)) (fun _ _ _ _ _ => (pg_name (i := 8) sc_law_rings.nd rfl (by first | exact Or.inl rfl | exact Or.inr rfl))) (fun _ _ _ _ _ => pts_nil) (fun _ _ _ _ _ => (pe_lc (own := [("t", 9)]) rfl sc_law_rings.nd (pi_range1 (by rfl) T.b_range (pa_cons (pv 1) pa_nil)) (blkOk_by (by kernel_rfl)) (fun _ _ _ _ _ => (pg_name (i := 9) sc_law_rings.nd rfl (by first | exact Or.inl rfl | exact Or.inr rfl))) (fun _ _ _ _ _ => pts_nil) (fun _ _ _ _ _ => (pe_ifExp (pt_cmpR op_lt (pe_op op_add (pv 8) pe_int) (pe_op op_add (pv 3) (pv 7)) (nomark _)) (pe_op op_add (pv 8) pe_int) (pv 7))))))
        (pss_cons (ps_setLc (i := 6) (own := [("q", 10)]) rfl sc_law_rings.nd rfl rfl (sw_true rfl rfl rfl (by decide +kernel)) (pi_range1 (by rfl) T.b_range (pa_cons (pv 4) pa_nil)) (blkOk_by (by kernel_rfl)) (fun _ _ _ _ _ => (pg_name (i := 10) sc_law_rings.nd rfl (by first | exact Or.inl rfl | exact Or.inr rfl))) (fun _ _ _ _ _ => pts_nil) (fun _ _ _ _ _ => (pe_lc (own := [("t", 9)]) rfl sc_law_rings.nd (pi_range1 (by rfl) T.b_range (pa_cons (pv 1) pa_nil)) (blkOk_by (by kernel_rfl)) (fun _ _ _ _ _ => (pg_name (i := 9) sc_law_rings.nd rfl (by first | exact Or.inl rfl | exact Or.inr rfl))) (fun _ _ _ _ _ => pts_nil) (fun _ _ _ _ _ => (pe_op op_mod (pe_callTy int1 (by rfl) T.b_int (by decide +kernel) (pa_cons (pe_op op_add (pv 10) pe_int) pa_nil)) (pv 4))))))
        (pss_cons (ps_if (pt_cmpR op_eq (pe_c c_law_pick hr (by decide) rfl (pa_cons (pv 0) (pa_cons pe_int pa_nil))) pe_int (nomark _)) (pss_one (ps_ret (pe_lst (pa_cons (pe_tup (pa_cons (pv 5) (pa_cons (pe_lst (pa_cons (pe_op op_sub (pe_op op_add (pv 3) (pv 7)) pe_int) pa_nil)) pa_nil))) (pa_cons (pe_tup (pa_cons (pv 6) (pa_cons (pe_lst (pa_cons pe_int pa_nil)) pa_nil))) pa_nil))))) pss_nil)
        (pss_one (ps_ret (pe_lst (pa_cons (pe_tup (pa_cons (pv 5) (pa_cons (pe_c c_law_some hr (by decide) rfl (pa_cons (pv 0) (pa_cons (pe_op op_add (pv 3) (pv 7)) (pa_cons (pe_op op_sub (pe_op op_add (pv 3) (pv 7)) pe_int) pa_nil)))) pa_nil))) (pa_cons (pe_tup (pa_cons (pv 6) (pa_cons (pe_c c_law_some hr (by decide) rfl (pa_cons (pv 0) (pa_cons (pv 4) (pa_cons pe_int pa_nil)))) pa_nil))) pa_nil))))))))))), ?_⟩
    walk_at "go"
    have fin : ∀ (H0 : Hp) (D1 D2 G1 G2 : Addr) (A B : Rws) (gA gB : List Nat) (H1 H2 : Hp) (u v p : Addr), Ev S H H0 → Rows S H0 D1 A → Rows S H0 D2 B → WF m A → WF m B → GOK A.length gA → GOK B.length gB → Ev S H0 H1 → Ints S H1 G1 gA → H1 u = none → Ev S (upd H1 u (.tup [.ref D1, .ref G1])) H2 → Ints S H2 G2 gB → H2 v = none → (upd H2 v (.tup [.ref D2, .ref G2])) p = none →
        Q (.ref p) (upd (upd H2 v (.tup [.ref D2, .ref G2])) p (.lst [.ref u, .ref v])) := fun H0 D1 D2 G1 G2 A B gA gB H1 H2 u v p e0 hA hB wA wB oA oB e1 i1 hu e2 i2 hv hp => by
      have eu : Ev S H1 (upd H1 u (.tup [.ref D1, .ref G1])) := .laid e1.src hu
      have ev : Ev S H2 (upd H2 v (.tup [.ref D2, .ref G2])) := .laid e2.src hv
      have ep : Ev S (upd H2 v (.tup [.ref D2, .ref G2])) (upd (upd H2 v (.tup [.ref D2, .ref G2])) p (.lst [.ref u, .ref v])) := .laid ev.src hp
      have hu2 : ¬ S u := e1.src.notin hu
      have hv2 : ¬ S v := e2.src.notin hv
      have e2p := ev.trans ep
      have e1p := e2.trans e2p
      have e0p := eu.trans e1p
      refine k p u v A gA B gB _ ((e0.trans e1).trans e0p) (ev.src.notin hp) upd_same ⟨hu2, D1, G1, e1p.at hu2 upd_same, (hA.ev e1).ev e0p, i1.ev e0p⟩ wA oA ⟨hv2, D2, G2, ep.at hv2 upd_same, ((hB.ev e1).ev eu).ev e1p, i2.ev e2p⟩ wB oB
    refine i_cut (fun σ H1 => Ev S H H1 ∧ σ = [some (.ref a), some (.int (m : Int)), none, none, none, none, none, none, none, none, none]) ?_ (fun σ H1 hz => ?_)
    · walk_at "go"
      refine iteD (fun hm1 => ?_) (fun hm1 => ?_)
      · walk_at "go"
        refine ⟨S, a, _, rfl, ha, hS, by omega, by omega, fun x H1 g0 g1 e1 => ?_⟩
        walk_at "go"
        refine iteD (fun hx => ?_) (fun hx => ?_)
        · walk_at "go"
          refine ⟨sz2, fun p0 hp0 => ?_⟩
          have e2 := Ev.laid (o := .tup [.int 6, .int 10]) e1.src hp0
          refine tMenu_read [[7, 9], [8, 8], [5, 12], [9, 6], [4, 15], [20, 3], [2, 31], [10, 6], [7, 8]] _ _ (by decide) fun as H2 s2 has => ?_
          have has2 : Paired (fun a (xs : List Int) => H2 a = some (.tup (xs.map V.int))) (p0 :: as) menu1 := .cons (s2 _ _ upd_same) (Paired.mapP has fun _ _ z => z.2)
          have e3 := e2.trans (Ev.of_same e2.src s2)
          refine ⟨szl (by rw [List.length_cons, List.length_map, has.length]; decide), fun L hL => ?_⟩
          have e4 := Ev.laid (o := .lst ((p0 :: as).map V.ref)) e3.src hL
          have hLm : (upd H2 L (.lst ((p0 :: as).map V.ref))) L = some (.lst ((p0 :: as).map V.ref)) := upd_same
          have hLS := e3.src.notin hL
          have has3 : Paired (fun a (xs : List Int) => (upd H2 L (.lst ((p0 :: as).map V.ref))) a = some (.tup (xs.map V.int))) (p0 :: as) menu1 := Paired.mapP has2 fun _ _ z => e4.tup e3.src z
          have hlen : (p0 :: as).length = 10 := has2.length
          change Addr at L
          have e04 := e1.trans (e3.trans e4)
          have hreq : (HO.lst (V.ref p0 :: as.map V.ref)) = HO.lst ((p0 :: as).map V.ref) := rfl
          rw [hreq]
          generalize upd H2 L (.lst ((p0 :: as).map V.ref)) = H4 at *
          walk_at "go"
          rw [List.length_map, hlen]
          refine ⟨S, a, _, rfl, ha, e04.src, by decide, by decide, fun d H5 g2 g3 e5 => ?_⟩
          obtain ⟨d, rfl⟩ := Int.eq_ofNat_of_zero_le g2
          obtain ⟨ad, xs, had, hxs, hat⟩ := menu_at has3 (d := d) (by show d < 10; omega)
          obtain ⟨a', b', rfl, ha0, hb0, ha1, hb1⟩ := menu1_ok xs hxs
          walk_at "go"
          refine i_ixL (e5.at hLS hLm) (v := .ref ad) (atI_nat (map_at had)) ?_
          have hat5 : H5 ad = some (.tup [.int (a' : Int), .int (b' : Int)]) := e5.tup e04.src hat
          walk_at "go"
          have e05 := e04.trans e5
          have hS5 := e05.src
          refine ⟨by omega, by omega, fun D hD => ?_⟩
          rw [Int.toNat_natCast]
          refine rng0_lc (RowInv S H5 D m a') (RowInv.start hS5 hD) (fun i H6 hi hz => ?_) (fun H6 hz => ?_)
          · walk_at "go"
            refine ⟨by omega, by omega, fun E hE => ?_⟩
            rw [Int.toNat_natCast]
            refine rng0_lc (CelInv S H6 E a') (CelInv.start hz.src hE) (fun j H7 hj hc => ?_) (fun H7 hc => ?_)
            · walk_at "go"
              refine iteD (fun ht => ?_) (fun ht => ?_)
              · walk_at "go"
                exact hc.add hz.src hE (Ev.refl hc.src) (u := (i + 1) % a') (Nat.mod_lt _ ha0) (by omega)
              · walk_at "go"
                exact hc.add hz.src hE (Ev.refl hc.src) (u := i) hi (by omega)
            · exact hz.step hS5 hD hE hc (by omega)
          obtain ⟨A, hA, hAl, hAw⟩ := hz.done hS5 hD
          have e6 := hz.1
          walk_at "go"
          refine ⟨by omega, by omega, fun D2 hD2 => ?_⟩
          rw [Int.toNat_natCast]
          refine rng0_lc (RowInv S H6 D2 m b') (RowInv.start e6.src hD2) (fun i H7 hi hz2 => ?_) (fun H7 hz2 => ?_)
          · walk_at "go"
            refine ⟨by omega, by omega, fun E hE => ?_⟩
            rw [Int.toNat_natCast]
            refine rng0_lc (CelInv S H7 E b') (CelInv.start hz2.src hE) (fun j H8 hj hc => ?_) (fun H8 hc => ?_)
            · walk_at "go"
              refine iteD (fun ht => ?_) (fun ht => ?_)
              · walk_at "go"
                exact hc.add hz2.src hE (Ev.refl hc.src) (u := (i + 1) % b') (Nat.mod_lt _ hb0) (by omega)
              · walk_at "go"
                exact hc.add hz2.src hE (Ev.refl hc.src) (u := i) hi (by omega)
            · exact hz2.step e6.src hD2 hE hc (by omega)
          obtain ⟨B, hB, hBl, hBw⟩ := hz2.done e6.src hD2
          have e7 := hz2.1
          have wA := wf_of hAl hAw ha0 (by omega) hm
          have wB := wf_of hBl hBw hb0 (by omega) hm
          walk_at "go"
          rw [show ((a' : Int) - 1) = ((a' - 1 : Nat) : Int) by omega]
          refine ⟨S, a, a', a' - 1, rfl, ha, e7.src, ha0, by omega, by omega, fun G1 gA H8 e8 i1 oA => ?_⟩
          walk_at "go"
          refine ⟨sz2, fun u hu => ?_⟩
          walk_at "go"
          have eu := Ev.laid (o := .tup [.ref D, .ref G1]) e8.src hu
          refine ⟨S, a, b', 0, rfl, ha, eu.src, hb0, by omega, hb0, fun G2 gB H9 e9 i2 oB => ?_⟩
          walk_at "go"
          refine ⟨sz2, fun v hv => ?_⟩
          walk_at "go"
          refine ⟨sz2, fun p hp => ?_⟩
          exact fin H7 D D2 G1 G2 A B gA gB H8 H9 u v p ((e05.trans e6).trans e7) (hA.ev e7) hB wA wB (by rw [hAl]; exact oA) (by rw [hBl]; exact oB) e8 i1 hu e9 i2 hv hp
        · walk_at "go"
          exact ⟨e1, rfl⟩
      · walk_at "go"
        exact ⟨Ev.refl hS, rfl⟩
    obtain ⟨e1, rfl⟩ := hz
    walk_at "go"
    refine ⟨sz3, fun p0 hp0 => ?_⟩
    have e2 := Ev.laid (o := .tup [.int 12, .int 5, .int 1]) e1.src hp0
    refine tMenu_read [[12, 5, 0], [7, 9, 0], [15, 4, 1], [20, 3, 0], [8, 7, 2], [4, 15, 1], [19, 3, 3], [5, 12, 1]] _ _ (by decide) fun as H2 s2 has => ?_
    have has2 : Paired (fun a (xs : List Int) => H2 a = some (.tup (xs.map V.int))) (p0 :: as) menu2 := .cons (s2 _ _ upd_same) (Paired.mapP has fun _ _ z => z.2)
    have e3 := e2.trans (Ev.of_same e2.src s2)
    refine ⟨szl (by rw [List.length_cons, List.length_map, has.length]; decide), fun L hL => ?_⟩
    have e4 := Ev.laid (o := .lst ((p0 :: as).map V.ref)) e3.src hL
    have hLm : (upd H2 L (.lst ((p0 :: as).map V.ref))) L = some (.lst ((p0 :: as).map V.ref)) := upd_same
    have hLS := e3.src.notin hL
    have has3 : Paired (fun a (xs : List Int) => (upd H2 L (.lst ((p0 :: as).map V.ref))) a = some (.tup (xs.map V.int))) (p0 :: as) menu2 := Paired.mapP has2 fun _ _ z => e4.tup e3.src z
    have hlen : (p0 :: as).length = 9 := has2.length
    have e04 := e1.trans (e3.trans e4)
    have hreq : (HO.lst (V.ref p0 :: as.map V.ref)) = HO.lst ((p0 :: as).map V.ref) := rfl
    rw [hreq]
    generalize upd H2 L (.lst ((p0 :: as).map V.ref)) = H4 at *
    walk_at "go"
    rw [List.length_map, hlen]
    refine ⟨S, a, _, rfl, ha, e04.src, by decide, by decide, fun d H5 g2 g3 e5 => ?_⟩
    obtain ⟨d, rfl⟩ := Int.eq_ofNat_of_zero_le g2
    obtain ⟨ad, xs, had, hxs, hat⟩ := menu_at has3 (d := d) (by show d < 9; omega)
    obtain ⟨a', b', c', rfl, ha0, hb0, ha1, hb1, hc1⟩ := menu2_ok xs hxs
    walk_at "go"
    refine i_ixL (e5.at hLS hLm) (v := .ref ad) (atI_nat (map_at had)) ?_
    have hat5 : H5 ad = some (.tup [.int (a' : Int), .int (b' : Int), .int (c' : Int)]) := e5.tup e04.src hat
    walk_at "go"
    have e05 := e04.trans e5
    have hS5 := e05.src
    rw [show ((a' : Int) + (c' : Int)) = ((a' + c' : Nat) : Int) by omega]
    refine ⟨by omega, by omega, fun D hD => ?_⟩
    rw [Int.toNat_natCast]
    refine rng0_lc (RowInv S H5 D m (a' + c')) (RowInv.start hS5 hD) (fun i H6 hi hz => ?_) (fun H6 hz => ?_)
    · walk_at "go"
      refine ⟨by omega, by omega, fun E hE => ?_⟩
      rw [Int.toNat_natCast]
      refine rng0_lc (CelInv S H6 E (a' + c')) (CelInv.start hz.src hE) (fun j H7 hj hc => ?_) (fun H7 hc => ?_)
      · walk_at "go"
        refine iteD (fun ht => ?_) (fun ht => ?_)
        · walk_at "go"
          exact hc.add hz.src hE (Ev.refl hc.src) (u := i + 1) (by have : (i : Int) + 1 < (a' : Int) + (c' : Int) := ht; omega) (by omega)
        · walk_at "go"
          exact hc.add hz.src hE (Ev.refl hc.src) (u := c') (by omega) (by omega)
      · exact hz.step hS5 hD hE hc (by omega)
    obtain ⟨A, hA, hAl, hAw⟩ := hz.done hS5 hD
    have e6 := hz.1
    walk_at "go"
    refine ⟨by omega, by omega, fun D2 hD2 => ?_⟩
    rw [Int.toNat_natCast]
    refine rng0_lc (RowInv S H6 D2 m b') (RowInv.start e6.src hD2) (fun i H7 hi hz2 => ?_) (fun H7 hz2 => ?_)
    · walk_at "go"
      refine ⟨by omega, by omega, fun E hE => ?_⟩
      rw [Int.toNat_natCast]
      refine rng0_lc (CelInv S H7 E b') (CelInv.start hz2.src hE) (fun j H8 hj hc => ?_) (fun H8 hc => ?_)
      · walk_at "go"
        exact hc.add hz2.src hE (Ev.refl hc.src) (u := (i + 1) % b') (Nat.mod_lt _ hb0) (by omega)
      · exact hz2.step e6.src hD2 hE hc (by omega)
    obtain ⟨B, hB, hBl, hBw⟩ := hz2.done e6.src hD2
    have e7 := hz2.1
    have wA := wf_of hAl hAw (by omega) (by omega) hm
    have wB := wf_of hBl hBw hb0 (by omega) hm
    walk_at "go"
    refine ⟨S, a, _, rfl, ha, e7.src, by decide, by decide, fun x H8 h3 h4 e8 => ?_⟩
    walk_at "go"
    refine iteD (fun hx => ?_) (fun hx => ?_)
    · walk_at "go"
      refine ⟨sz1, fun G1 hG1 => ?_⟩
      walk_at "go"
      refine ⟨sz2, fun u hu => ?_⟩
      walk_at "go"
      refine ⟨sz1, fun G2 hG2 => ?_⟩
      walk_at "go"
      refine ⟨sz2, fun v hv => ?_⟩
      walk_at "go"
      refine ⟨sz2, fun p hp => ?_⟩
      have e9 := e8.trans (Ev.laid (o := .lst [.int ((a' : Int) + (c' : Int) - 1)]) e8.src hG1)
      have eu := Ev.laid (o := .tup [.ref D, .ref G1]) e9.src hu
      have e10 := Ev.laid (o := .lst [.int 0]) eu.src hG2
      refine fin H7 D D2 G1 G2 A B [a' + c' - 1] [0] _ _ u v p ((e05.trans e6).trans e7) (hA.ev e7) hB wA wB (by rw [hAl]; exact ⟨by simp, fun z hz => by rw [List.mem_singleton.mp hz]; omega⟩) (by rw [hBl]; exact ⟨by simp, fun z hz => by rw [List.mem_singleton.mp hz]; omega⟩) e9 ⟨e8.src.notin hG1, false, ?_⟩ hu e10 ⟨eu.src.notin hG2, false, upd_same⟩ hv hp
      rw [upd_same]
      show some (HO.lst [V.int _]) = some (HO.lst [V.int _])
      rw [show ((a' : Int) + (c' : Int) - 1) = ((a' + c' - 1 : Nat) : Int) by omega]
    walk_at "go"
    rw [show ((a' : Int) + (c' : Int) - 1) = ((a' + c' - 1 : Nat) : Int) by omega]
    refine ⟨S, a, a' + c', a' + c' - 1, by rw [Int.natCast_add], ha, e8.src, by omega, by omega, by omega, fun G1 gA H9 e9 i1 oA => ?_⟩
    walk_at "go"
    refine ⟨sz2, fun u hu => ?_⟩
    walk_at "go"
    have eu := Ev.laid (o := .tup [.ref D, .ref G1]) e9.src hu
    refine ⟨S, a, b', 0, rfl, ha, eu.src, hb0, by omega, hb0, fun G2 gB H10 e10 i2 oB => ?_⟩
    walk_at "go"
    refine ⟨sz2, fun v hv => ?_⟩
    walk_at "go"
    refine ⟨sz2, fun p hp => ?_⟩
    exact fin H7 D D2 G1 G2 A B gA gB H9 H10 u v p ((e05.trans e6).trans e7) (hA.ev e7) hB wA wB (by rw [hAl]; exact oA) (by rw [hBl]; exact oB) (e8.trans e9) i1 hu e10 i2 hv hp
end
abbrev s_law_thin : Stmt := top 57
theorem sc_law_thin : FnScope ["source", "alphabet", "many", "way", "word", "size", "moves", "p", "t"] ["source", "alphabet"] (fnScope s_law_thin) := ⟨rfl, rfl, rfl, by decide +kernel, rfl, by decide +kernel, by decide +kernel⟩
def sp_law_thin : Sp := fun vs H Q _ => ∃ (S : AS) (a : Addr) (al : List Nat), vs = [.ref a, .str (SX.S al)] ∧ S a ∧ Srcs S H ∧ AlOk al ∧ ∀ p rs gd H', Ev S H H' → Mach S H' p rs gd → WF al.length rs → GOK rs.length gd → Q (.ref p) H'
section
variable {P : Program} {w : World} {K : PySem.W.Frag} {mg : Str → Option Value} {base : Heap} {C : Addr} {r : Er}
set_option maxHeartbeats 4000000 in
theorem ok_law_thin {f : Addr} {fd : FuncData} (F : Def K mg "_law_thin" s_law_thin f fd) (T : Txt K mg C r) (b : Binds K fd ["source", "alphabet"] []) (c_law_pick : Cal P w K mg base 1 "_law_pick" sp_law_pick []) (c_law_word : Cal P w K mg base 2 "_law_word" sp_law_word []) (c_law_line : Cal P w K mg base 1 "_law_line" sp_law_line []) : Cal P w K mg base 3 "_law_thin" (sp_law_thin) [] := by
  refine cal0 F b .nil sc_law_thin (fun vs H Q E h => ?_) (fun cdv A outer s H vs Q E hr h => ?_)
  · obtain ⟨_, _, _, rfl, _⟩ := h
    rfl
  · obtain ⟨S, a, al, rfl, ha, hS, hal, k⟩ := h
    refine ⟨_, (pss_cons (ps_set (i := 2) sc_law_thin.nd rfl (by first | exact Or.inl rfl | exact Or.inr rfl) (pe_callB (lenK K rfl) (by rfl) T.b_len (by decide +kernel) (pa_cons (pv 1) pa_nil)))
        (pss_cons (ps_set (i := 3) sc_law_thin.nd rfl (by first | exact Or.inl rfl | exact Or.inr rfl) (pe_c c_law_pick hr (by decide) rfl (pa_cons (pv 0) (pa_cons pe_int pa_nil))))
        (pss_cons (ps_if (pt_cmpR op_eq (pv 3) pe_int (nomark _)) (pss_cons (ps_set (i := 4) sc_law_thin.nd rfl (by first | exact Or.inl rfl | exact Or.inr rfl) (pe_op op_add_str (pe_ix (ixK K rfl) (pv 1) (pe_c c_law_pick hr (by decide) rfl (pa_cons (pv 0) (pa_cons (pv 2) pa_nil))) (fun _ _ => rfl)) (pe_c c_law_word hr (by decide) rfl (pa_cons (pv 0) (pa_cons (pv 1) (pa_cons pe_int pa_nil))))))
        (pss_one (ps_ret (pe_c c_law_line hr (by decide) rfl (pa_cons (pv 1) (pa_cons (pv 4) (pa_cons (pe_ix (ixK K rfl) (pe_lst (pa_cons (pe_un un_neg pe_int) (pa_cons pe_int (pa_cons pe_int (pa_cons (pe_un un_neg pe_int) (pa_cons pe_int (pa_cons pe_int pa_nil))))))) (pe_c c_law_pick hr (by decide) rfl (pa_cons (pv 0) (pa_cons pe_int pa_nil))) (fun _ _ => rfl)) pa_nil))))))) pss_nil)
        (pss_cons (ps_set (i := 5) sc_law_thin.nd rfl (by first | exact Or.inl rfl | exact Or.inr rfl) (pe_op op_add pe_int (pe_c c_law_pick hr (by decide) rfl (pa_cons (pv 0) (pa_cons pe_int pa_nil)))))
        (pss_cons (ps_setLc (i := 6) (own := [("p", 7)]) rfl sc_law_thin.nd rfl rfl (sw_true rfl rfl rfl (by decide +kernel)) (pi_range1 (by rfl) T.b_range (pa_cons (pv 5) pa_nil)) (blkOk_by (by kernel_rfl)) (fun _ _ _ _ _ => (pg_name (i := 7) sc_law_thin.nd rfl (by first | exact Or.inl rfl | exact Or.inr rfl))) (fun _ _ _ _ _ => pts_nil) (fun _ _ _ _ _ => (pe_lc (own := [("t", 8)]) rfl sc_law_thin.nd (pi_range1 (by rfl) T.b_range (pa_cons (pv 2) pa_nil)) (blkOk_by (by kernel_rfl)) (fun _ _ _ _ _ => (pg_name (i := 8) sc_law_thin.nd rfl (by first | exact Or.inl rfl | exact Or.inr rfl))) (fun _ _ _ _ _ => pts_nil) (fun _ _ _ _ _ => (pe_callB (call_min2 rfl) (by rfl) T.b_min (by decide +kernel) (pa_cons (pv 5) (pa_cons (pe_op op_add (pe_op op_add (pv 7) pe_int) (pe_c c_law_pick hr (by decide) rfl (pa_cons (pv 0) (pa_cons pe_int pa_nil)))) pa_nil)))))))
        (C8.pss_cut (ps_if (pt_cmpR op_eq (pv 3) pe_int (nomark _)) (pss_one (ps_setLc (i := 6) (own := [("p", 7)]) rfl sc_law_thin.nd rfl rfl (sw_true rfl rfl rfl (by decide +kernel)) (pi_range1 (by rfl) T.b_range (pa_cons (pv 5) pa_nil)) (blkOk_by (by kernel_rfl)) (fun _ _ _ _ _ => (pg_name (i := 7) sc_law_thin.nd rfl (by first | exact Or.inl rfl | exact Or.inr rfl))) (fun _ _ _ _ _ => pts_nil) (fun _ _ _ _ _ => (pe_lc (own := [("t", 8)]) rfl sc_law_thin.nd (pi_range1 (by rfl) T.b_range (pa_cons (pv 2) pa_nil)) (blkOk_by (by kernel_rfl)) (fun _ _ _ _ _ => (pg_name (i := 8) sc_law_thin.nd rfl (by first | exact Or.inl rfl | exact Or.inr rfl))) (fun _ _ _ _ _ => pts_nil) (fun _ _ _ _ _ => (pe_c c_law_pick hr (by decide) rfl (pa_cons (pv 0) (pa_cons (pe_op op_add (pv 5) pe_int) pa_nil)))))))) pss_nil)
        (pss_cons (ps_expr (bmK K rfl (pe_bm PySem.F.plainAttrs_list PySem.F.slot_list_append PySem.F.type_list_append mt_append (pv 6) (pa_cons (pe_lc (own := [("t", 8)]) rfl sc_law_thin.nd (pi_range1 (by rfl) T.b_range (pa_cons (pv 2) pa_nil)) (blkOk_by (by kernel_rfl)) (fun _ _ _ _ _ => (pg_name (i := 8) sc_law_thin.nd rfl (by first | exact Or.inl rfl | exact Or.inr rfl))) (fun _ _ _ _ _ => pts_nil) (fun _ _ _ _ _ => (pv 5))) pa_nil))))
        (pss_one (ps_ret (pe_tup (pa_cons (pv 6) (pa_cons (pe_lc (own := [("p", 7)]) rfl sc_law_thin.nd (pi_range1 (by rfl) T.b_range (pa_cons (pv 5) pa_nil)) (blkOk_by (by kernel_rfl)) (fun _ _ _ _ _ => (pg_name (i := 7) sc_law_thin.nd rfl (by first | exact Or.inl rfl | exact Or.inr rfl))) (fun _ _ _ _ _ => (pts_one (pt_cmpR op_eq (pe_c c_law_pick hr (by decide) rfl (pa_cons (pv 0) (pa_cons pe_int pa_nil))) pe_int (nomark _)))) (fun _ _ _ _ _ => (pv 7))) pa_nil)))))))))))), ?_⟩
    walk_at "go"
    have h1 := hal.pos
    have h3 := hal.le
    have hl : (SX.S al).length = al.length := SX.S_len al
    refine i_lenS (szl (by omega)) ?_
    rw [hl]
    walk_at "go"
    refine ⟨S, a, _, rfl, ha, hS, by decide, by decide, fun way H1 g0 g1 e1 => ?_⟩
    walk_at "go"
    refine iteD (fun hx => ?_) (fun hx => ?_)
    · walk_at "go"
      refine ⟨S, a, _, rfl, ha, e1.src, by omega, by omega, fun d H2 g2 g3 e2 => ?_⟩
      obtain ⟨d, rfl⟩ := Int.eq_ofNat_of_zero_le g2
      have hd : d < al.length := by omega
      have hc : al[d]? = some (al.getD d 0) := by
        rw [List.getD_eq_getElem?_getD, List.getElem?_eq_getElem hd]
        rfl
      refine i_ixS (szl (by omega)) (S_at hc) ?_
      walk_at "go"
      refine ⟨S, a, al, 2, rfl, ha, e2.src, hal, by decide, fun z w H3 hz hw e3 => ?_⟩
      walk_at "go"
      have hl1 : (⟨#[al.getD d 0]⟩ : Str).length = 1 := rfl
      have hl2 := SX.S_len z
      refine ⟨_, _, rfl, rfl, by rw [hl1, hl2, sizeLine_eq]; omega, ?_⟩
      rw [S_cons]
      walk_at "go"
      refine ⟨szl (by show 6 ≤ 16777216; decide), fun M hM => ?_⟩
      have e4 := Ev.laid (o := .lst [.int (-1), .int 3, .int 1, .int (-1), .int 5, .int 0]) e3.src hM
      walk_at "go"
      refine ⟨S, a, _, rfl, ha, e4.src, by decide, by decide, fun x H4 g4 g5 e5 => ?_⟩
      have hM4 := e5.at (e3.src.notin hM) upd_same
      have hv : ∃ c : Int, atI ([.int (-1), .int 3, .int 1, .int (-1), .int 5, .int 0] : List V) x = some (.int c) ∧ -1 ≤ c ∧ c ≤ 40 := by
        have : x = 0 ∨ x = 1 ∨ x = 2 ∨ x = 3 ∨ x = 4 ∨ x = 5 := by omega
        rcases this with rfl | rfl | rfl | rfl | rfl | rfl
        · exact ⟨-1, rfl, by decide, by decide⟩
        · exact ⟨3, rfl, by decide, by decide⟩
        · exact ⟨1, rfl, by decide, by decide⟩
        · exact ⟨-1, rfl, by decide, by decide⟩
        · exact ⟨5, rfl, by decide, by decide⟩
        · exact ⟨0, rfl, by decide, by decide⟩
      obtain ⟨c, hc1, hc2, hc3⟩ := hv
      refine i_ixL hM4 hc1 ?_
      walk_at "go"
      refine ⟨al, d :: w, al.getD d 0 :: z, c, rfl, hal, hw.cons hd, by simp, by simp; omega, hc2, hc3, fun Z q rs gd H' hZ s6 hm hwf hg _ => ?_⟩
      walk_at "go"
      have e15 := e1.trans (e2.trans (e3.trans (e4.trans e5)))
      exact k q rs gd H' (e15.trans (Ev.of_same e15.src s6)) (by rw [hZ] at hm; exact hm.srcs e15.src) hwf hg
    walk_at "go"
    refine ⟨S, a, _, rfl, ha, e1.src, by decide, by decide, fun d H2 g2 g3 e2 => ?_⟩
    obtain ⟨d, rfl⟩ := Int.eq_ofNat_of_zero_le g2
    walk_at "go"
    rw [show ((2 : Int) + (d : Int)) = ((2 + d : Nat) : Int) by omega]
    generalize hn : 2 + d = n
    have hn0 : 2 ≤ n := by omega
    have hn1 : n ≤ 5 := by omega
    refine ⟨by omega, by omega, fun D hD => ?_⟩
    rw [Int.toNat_natCast]
    refine rng0_lc (RowInv S H2 D al.length (n + 1)) (RowInv.start e2.src hD) (fun i H3 hi hz => ?_) (fun H3 hz => ?_)
    · walk_at "go"
      refine ⟨by omega, by omega, fun E hE => ?_⟩
      rw [Int.toNat_natCast]
      refine rng0_lc (CelInv S H3 E (n + 1)) (CelInv.start hz.src hE) (fun j H4 hj hc => ?_) (fun H4 hc => ?_)
      · walk_at "go"
        refine ⟨S, a, _, rfl, ha, hc.src, by decide, by decide, fun x H5 g4 g5 e5 => ?_⟩
        obtain ⟨x, rfl⟩ := Int.eq_ofNat_of_zero_le g4
        walk_at "go"
        refine ⟨_, _, rfl, ?_⟩
        rw [show (if (i : Int) + 1 + (x : Int) < (n : Int) then (i : Int) + 1 + (x : Int) else (n : Int)) = ((if i + 1 + x < n then i + 1 + x else n : Nat) : Int) by split <;> split <;> omega]
        exact hc.add hz.src hE e5 (u := if i + 1 + x < n then i + 1 + x else n) (by split <;> omega) (by omega)
      · exact hz.step e2.src hD hE hc (by omega)
    show C8.tCut _ _ _ _ _
    refine i_cut (fun σ H6 => ∃ (H5 : Hp) (D' : Addr), Ev S H H5 ∧ H5 D' = none ∧ RowInv S H5 D' al.length (n + 1) n H6 ∧ σ = [some (.ref a), some (.str (SX.S al)), some (vn al.length), some (.int way), none, some (vn n), some (.ref D'), none, none]) ?_ (fun σ H6 hq => ?_)
    · walk_at "go"
      refine iteD (fun hw => ?_) (fun hw => ?_)
      · walk_at "go"
        have e3 := hz.1
        refine ⟨by omega, by omega, fun D2 hD2 => ?_⟩
        rw [Int.toNat_natCast]
        refine rng0_lc (RowInv S H3 D2 al.length (n + 1)) (RowInv.start e3.src hD2) (fun i H4 hi hz2 => ?_) (fun H4 hz2 => ?_)
        · walk_at "go"
          refine ⟨by omega, by omega, fun E hE => ?_⟩
          rw [Int.toNat_natCast]
          refine rng0_lc (CelInv S H4 E (n + 1)) (CelInv.start hz2.src hE) (fun j H5 hj hc => ?_) (fun H5 hc => ?_)
          · walk_at "go"
            refine ⟨S, a, _, rfl, ha, hc.src, by omega, by omega, fun x H6 g4 g5 e5 => ?_⟩
            obtain ⟨x, rfl⟩ := Int.eq_ofNat_of_zero_le g4
            walk_at "go"
            exact hc.add hz2.src hE e5 (u := x) (by omega) (by omega)
          · exact hz2.step e3.src hD2 hE hc (by omega)
        walk_at "go"
        exact ⟨H3, D2, e1.trans (e2.trans e3), hD2, hz2, rfl⟩
      · walk_at "go"
        exact ⟨H2, D, e1.trans e2, hD, hz, rfl⟩
    obtain ⟨H5, D', e5, hD5, hz5, rfl⟩ := hq
    walk_at "go"
    obtain ⟨acc0, hD6⟩ : ∃ l, H6 D' = some (.lst l) := by
      obtain ⟨_, bs, _, h, _⟩ := hz5
      exact ⟨_, h⟩
    walk_at "go"
    refine ⟨by omega, by omega, fun E hE => ?_⟩
    rw [Int.toNat_natCast]
    refine rng0_lc (CelInv S H6 E (n + 1)) (CelInv.start hz5.src hE) (fun j H7 hj hc => ?_) (fun H7 hc => ?_)
    · walk_at "go"
      exact hc.add hz5.src hE (Ev.refl hc.src) (u := n) (by omega) (by omega)
    walk_at "go"
    obtain ⟨acc, hDa, hacc, hz6⟩ := hz5.step e5.src hD5 hE hc (by omega)
    refine i_append hDa hacc ?_
    walk_at "go"
    obtain ⟨A, hA, hAl, hAw⟩ := hz6.done e5.src hD5
    have e6 := hz6.1
    refine ⟨by omega, by omega, fun G hG => ?_⟩
    rw [Int.toNat_natCast]
    refine rng0_lc (FilInv S _ G) (FilInv.start e6.src hG) (fun i H8 hi hf => ?_) (fun H8 hf => ?_)
    · walk_at "go"
      refine ⟨S, a, _, rfl, ha, hf.src, by decide, by decide, fun x H9 g4 g5 e9 => ?_⟩
      walk_at "go"
      refine iteD (fun hx => ?_) (fun hx => ?_)
      · walk_at "go"
        exact hf.add e6.src hG e9 (by omega)
      · exact hf.skip e6.src hG e9
    obtain ⟨gd, hgd, hgo⟩ := hf.done e6.src hG
    walk_at "go"
    refine ⟨sz2, fun q hq => ?_⟩
    have e8 := hf.1
    have e9 := Ev.laid (o := .tup [.ref D', .ref G]) e8.src hq
    exact k q A gd _ (((e5.trans e6).trans e8).trans e9) ⟨e8.src.notin hq, D', G, upd_same, (hA.ev e8).ev e9, hgd.ev e9⟩ (wf_of hAl hAw (by omega) (by omega) h3) (hgo.up (by omega))
end
abbrev s_law_both : Stmt := top 58
theorem sc_law_both : FnScope ["source", "second", "alphabet", "many", "way", "first", "other", "p", "t"] ["source", "second", "alphabet"] (fnScope s_law_both) := ⟨rfl, rfl, rfl, by decide +kernel, rfl, by decide +kernel, by decide +kernel⟩
def MG (S : AS) (m : Nat) (H : Hp) (p : Addr) (A : Rws) (g : List Nat) : Prop := Mach S H p A g ∧ WF m A ∧ GOK A.length g
theorem MG.ev {S : AS} {m : Nat} {H H' : Hp} {p : Addr} {A : Rws} {g : List Nat} (h : MG S m H p A g) (e : Ev S H H') : MG S m H' p A g := ⟨h.1.ev e, h.2⟩
def BothAt (S : AS) (H : Hp) (a a2 : Addr) (al : List Nat) (way : Nat) : L2.St → Hp → Prop := fun σ H' => ∃ u v A gA B gB, σ = [some (.ref a), some (.ref a2), some (.str (SX.S al)), some (vn al.length), some (vn way), some (.ref u), some (.ref v), none, none] ∧ Ev S H H' ∧ MG S al.length H' u A gA ∧ MG S al.length H' v B gB
theorem iteC {b : Bool} {x y : V} {σ : L2.St} {H : Hp} {X : VK} (q : X (if b = true then x else y) H) : if b = true then tC x σ H X else tC y σ H X := by
  cases b <;> exact q
theorem if96 (way : Nat) : ∃ n : Nat, 0 < n ∧ n ≤ 60 ∧ (if decide ((way : Int) = 5) = true then V.int 9 else V.int 6) = .int (n : Int) := by
  by_cases h : decide ((way : Int) = 5) = true
  · exact ⟨9, by decide, by decide, if_pos h⟩
  · exact ⟨6, by decide, by decide, if_neg h⟩
def sp_law_both : Sp := fun vs H Q _ => ∃ (S : AS) (a b : Addr) (al : List Nat), vs = [.ref a, .ref b, .str (SX.S al)] ∧ S a ∧ S b ∧ Srcs S H ∧ AlOk al ∧ ∀ p u v A gA B gB H', Ev S H H' → ¬ S p → H' p = some (.lst [.ref u, .ref v]) → MG S al.length H' u A gA → MG S al.length H' v B gB → Q (.ref p) H'
section
variable {P : Program} {w : World} {K : PySem.W.Frag} {mg : Str → Option Value} {base : Heap} {C : Addr} {r : Er}
set_option maxHeartbeats 4000000 in
theorem ok_law_both {f : Addr} {fd : FuncData} (F : Def K mg "_law_both" s_law_both f fd) (T : Txt K mg C r) (b : Binds K fd ["source", "second", "alphabet"] []) (c_law_pick : Cal P w K mg base 1 "_law_pick" sp_law_pick []) (c_law_rings : Cal P w K mg base 3 "_law_rings" sp_law_rings []) (c_law_reader : Cal P w K mg base 2 "_law_reader" sp_law_reader []) (c_law_thin : Cal P w K mg base 3 "_law_thin" sp_law_thin []) (c_law_changed : Cal P w K mg base 2 "_law_changed" sp_law_changed []) : Cal P w K mg base 4 "_law_both" (sp_law_both) [] := by
  refine cal0 F b .nil sc_law_both (fun vs H Q E h => ?_) (fun cdv A outer s H vs Q E hr h => ?_)
  · obtain ⟨_, _, _, _, rfl, _⟩ := h
    rfl
  · obtain ⟨S, a, a2, al, rfl, ha, hb, hS, hal, k⟩ := h
    refine ⟨_, (pss_cons (ps_set (i := 3) sc_law_both.nd rfl (by first | exact Or.inl rfl | exact Or.inr rfl) (pe_callB (lenK K rfl) (by rfl) T.b_len (by decide +kernel) (pa_cons (pv 2) pa_nil)))
        (pss_cons (ps_set (i := 4) sc_law_both.nd rfl (by first | exact Or.inl rfl | exact Or.inr rfl) (pe_c c_law_pick hr (by decide) rfl (pa_cons (pv 0) (pa_cons pe_int pa_nil))))
        (C8.pss_cut (ps_if (pt_cmpR (inK K rfl) (pv 4) (pe_tup (pa_cons pe_int (pa_cons pe_int pa_nil))) rfl) (pss_one (ps_ret (pe_c c_law_rings hr (by decide) rfl (pa_cons (pv 1) (pa_cons (pv 3) pa_nil))))) pss_nil)
        (pss_cons (ps_set (i := 5) sc_law_both.nd rfl (by first | exact Or.inl rfl | exact Or.inr rfl) (pe_c c_law_reader hr (by decide) rfl (pa_cons (pv 0) (pa_cons (pv 3) (pa_cons (pe_ifExp (pt_cmpR op_eq (pv 4) pe_int (nomark _)) pe_int pe_int) pa_nil)))))
        (pss_cons (ps_set (i := 6) sc_law_both.nd rfl (by first | exact Or.inl rfl | exact Or.inr rfl) (pe_c c_law_reader hr (by decide) rfl (pa_cons (pv 1) (pa_cons (pv 3) (pa_cons (pe_ifExp (pt_cmpR op_eq (pv 4) pe_int (nomark _)) pe_int pe_int) pa_nil)))))
        (C8.pss_cut (ps_if (pt_cmpR (inK K rfl) (pv 4) (pe_tup (pa_cons pe_int (pa_cons pe_int (pa_cons pe_int (pa_cons pe_int pa_nil))))) rfl) (pss_one (ps_set (i := 5) sc_law_both.nd rfl (by first | exact Or.inl rfl | exact Or.inr rfl) (pe_c c_law_thin hr (by decide) rfl (pa_cons (pv 0) (pa_cons (pv 2) pa_nil))))) pss_nil)
        (C8.pss_cut (ps_if (pt_cmpR (inK K rfl) (pv 4) (pe_tup (pa_cons pe_int (pa_cons pe_int (pa_cons pe_int pa_nil)))) rfl) (pss_one (ps_set (i := 6) sc_law_both.nd rfl (by first | exact Or.inl rfl | exact Or.inr rfl) (pe_c c_law_thin hr (by decide) rfl (pa_cons (pv 1) (pa_cons (pv 2) pa_nil))))) pss_nil)
        (C8.pss_cut (ps_if (pt_cmpR op_eq (pv 4) pe_int (nomark _)) (pss_one (ps_set (i := 6) sc_law_both.nd rfl (by first | exact Or.inl rfl | exact Or.inr rfl) (pe_tup (pa_cons (pe_ix (ixK K rfl) (pv 5) pe_int (fun _ _ => rfl)) (pa_cons (pe_lc (own := [("p", 7)]) rfl sc_law_both.nd (pi_range1 (by rfl) T.b_range (pa_cons (pe_callB (lenK K rfl) (by rfl) T.b_len (by decide +kernel) (pa_cons (pe_ix (ixK K rfl) (pv 5) pe_int (fun _ _ => rfl)) pa_nil)) pa_nil)) (blkOk_by (by kernel_rfl)) (fun _ _ _ _ _ => (pg_name (i := 7) sc_law_both.nd rfl (by first | exact Or.inl rfl | exact Or.inr rfl))) (fun _ _ _ _ _ => (pts_one (pt_cmpR (notInK K rfl) (pv 7) (pe_ix (ixK K rfl) (pv 5) pe_int (fun _ _ => rfl)) rfl))) (fun _ _ _ _ _ => (pv 7))) pa_nil))))) pss_nil)
        (C8.pss_cut (ps_if (pt_cmpR (inK K rfl) (pv 4) (pe_tup (pa_cons pe_int (pa_cons pe_int pa_nil))) rfl) (pss_one (ps_set (i := 6) sc_law_both.nd rfl (by first | exact Or.inl rfl | exact Or.inr rfl) (pe_c c_law_changed hr (by decide) rfl (pa_cons (pv 1) (pa_cons (pv 5) pa_nil))))) pss_nil)
        (C8.pss_cut (ps_if (pt_cmpR op_eq (pv 4) pe_int (nomark _)) (pss_one (ps_set (i := 6) sc_law_both.nd rfl (by first | exact Or.inl rfl | exact Or.inr rfl) (pe_tup (pa_cons (pe_ix (ixK K rfl) (pv 5) pe_int (fun _ _ => rfl)) (pa_cons (pe_callTy (listK K rfl) (by rfl) T.b_list (by decide +kernel) (pa_cons (pe_ix (ixK K rfl) (pv 5) pe_int (fun _ _ => rfl)) pa_nil)) pa_nil))))) pss_nil)
        (C8.pss_cut (ps_if (pt_cmpR op_eq (pv 4) pe_int (nomark _)) (pss_one (ps_set (i := 6) sc_law_both.nd rfl (by first | exact Or.inl rfl | exact Or.inr rfl) (pe_tup (pa_cons (pe_lst (pa_cons (pe_lc (own := [("t", 8)]) rfl sc_law_both.nd (pi_range1 (by rfl) T.b_range (pa_cons (pv 3) pa_nil)) (blkOk_by (by kernel_rfl)) (fun _ _ _ _ _ => (pg_name (i := 8) sc_law_both.nd rfl (by first | exact Or.inl rfl | exact Or.inr rfl))) (fun _ _ _ _ _ => pts_nil) (fun _ _ _ _ _ => pe_int)) pa_nil)) (pa_cons (pe_ix (ixK K rfl) (pe_lst (pa_cons (pe_lst pa_nil) (pa_cons (pe_lst (pa_cons pe_int pa_nil)) pa_nil))) (pe_c c_law_pick hr (by decide) rfl (pa_cons (pv 1) (pa_cons pe_int pa_nil))) (fun _ _ => rfl)) pa_nil))))) pss_nil)
        (pss_one (ps_ret (pe_lst (pa_cons (pv 5) (pa_cons (pv 6) pa_nil)))))))))))))))), ?_⟩
    walk_at "go"
    have h1 := hal.pos
    have h3 := hal.le
    have hl : (SX.S al).length = al.length := SX.S_len al
    refine i_lenS (szl (by omega)) ?_
    rw [hl]
    walk_at "go"
    refine ⟨S, a, _, rfl, ha, hS, by decide, by decide, fun way H1 g0 g1 e1 => ?_⟩
    obtain ⟨way, rfl⟩ := Int.eq_ofNat_of_zero_le g0
    have hS1 := e1.src
    walk_at "go"
    show C8.tCut _ _ _ _ _
    refine i_cut (fun σ H2 => σ = [some (.ref a), some (.ref a2), some (.str (SX.S al)), some (vn al.length), some (vn way), none, none, none, none] ∧ Ev S H H2) ?_ (fun σ H2 hq => ?_)
    · walk_at "go"
      refine ⟨sz2, fun p hp => ?_⟩
      have e2 := Ev.laid (o := .tup [.int 7, .int 11]) hS1 hp
      have hin : (upd H1 p (.tup [.int 7, .int 11])) p = some (sq true (([7, 11] : List Nat).map vn)) := upd_same
      refine i_inI hin ?_
      walk_at "go"
      refine iteD (fun hw => ?_) (fun hw => ?_)
      · walk_at "go"
        refine ⟨S, a2, al.length, rfl, hb, e2.src, h1, h3, fun p u v A gA B gB H3 e3 nS hp hA wA kA hB wB kB => ?_⟩
        walk_at "go"
        exact k p u v A gA B gB H3 ((e1.trans e2).trans e3) nS hp ⟨hA, wA, kA⟩ ⟨hB, wB, kB⟩
      · walk_at "go"
        exact ⟨rfl, e1.trans e2⟩
    obtain ⟨rfl, e2⟩ := hq
    walk_at "go"
    obtain ⟨n, hn0, hn1, hn⟩ := if96 way
    refine iteC ?_
    rw [hn]
    walk_at "go"
    refine ⟨S, a, al.length, n, rfl, ha, e2.src, h1, h3, hn0, hn1, fun u A gA H3 e3 hA wA kA _ => ?_⟩
    walk_at "go"
    refine iteC ?_
    rw [hn]
    walk_at "go"
    refine ⟨S, a2, al.length, n, rfl, hb, e3.src, h1, h3, hn0, hn1, fun v B gB H4 e4 hB wB kB _ => ?_⟩
    walk_at "go"
    have hA4 : MG S al.length H4 u A gA := ⟨hA.ev e4, wA, kA⟩
    have hB4 : MG S al.length H4 v B gB := ⟨hB, wB, kB⟩
    have e := (e2.trans e3).trans e4
    clear hA hB wA wB kA kB e3 e4 e2
    show C8.tCut _ _ _ _ _
    refine i_cut (BothAt S H a a2 al way) ?_ (fun σ H' hq => ?_)
    · have hA := hA4
      have hB := hB4
      show tIfS _ _ _ _ [some (.ref a), some (.ref a2), some (.str (SX.S al)), some (vn al.length), some (vn way), some (.ref u), some (.ref v), none, none] H4
      walk_at "go"
      refine ⟨by decide, fun p hp => ?_⟩
      have e2 := Ev.laid (o := .tup [.int 1, .int 3, .int 8, .int 10]) e.src hp
      have hin : (upd H4 p (.tup [.int 1, .int 3, .int 8, .int 10])) p = some (sq true (([1, 3, 8, 10] : List Nat).map vn)) := upd_same
      refine i_inI hin ?_
      walk_at "go"
      refine iteD (fun hw => ?_) (fun hw => ?_)
      · walk_at "go"
        refine ⟨S, a, al, rfl, ha, e2.src, hal, fun u A gA H3 e3 hA wA kA => ?_⟩
        walk_at "go"
        exact ⟨u, v, A, gA, B, gB, rfl, (e.trans e2).trans e3, ⟨hA, wA, kA⟩, (hB.ev e2).ev e3⟩
      · walk_at "go"
        exact ⟨u, v, A, gA, B, gB, rfl, e.trans e2, hA.ev e2, hB.ev e2⟩
    clear hA4 hB4 e
    obtain ⟨u1, v1, A1, gA1, B1, gB1, rfl, e, hA, hB⟩ := hq
    show C8.tCut _ _ _ _ _
    refine i_cut (BothAt S H a a2 al way) ?_ (fun σ H2 hq => ?_)
    · walk_at "go"
      refine ⟨by decide, fun p hp => ?_⟩
      have e2 := Ev.laid (o := .tup [.int 1, .int 2, .int 10]) e.src hp
      have hin : (upd H' p (.tup [.int 1, .int 2, .int 10])) p = some (sq true (([1, 2, 10] : List Nat).map vn)) := upd_same
      refine i_inI hin ?_
      walk_at "go"
      refine iteD (fun hw => ?_) (fun hw => ?_)
      · walk_at "go"
        refine ⟨S, a2, al, rfl, hb, e2.src, hal, fun u A gA H3 e3 hA2 wA kA => ?_⟩
        walk_at "go"
        exact ⟨u1, u, A1, gA1, A, gA, rfl, (e.trans e2).trans e3, (hA.ev e2).ev e3, ⟨hA2, wA, kA⟩⟩
      · walk_at "go"
        exact ⟨u1, v1, A1, gA1, B1, gB1, rfl, e.trans e2, hA.ev e2, hB.ev e2⟩
    clear hA hB e
    obtain ⟨u, v, A, gA, B, gB, rfl, e, hA, hB⟩ := hq
    show C8.tCut _ _ _ _ _
    refine i_cut (BothAt S H a a2 al way) ?_ (fun σ H3 hq => ?_)
    · walk_at "go"
      refine iteD (fun hw => ?_) (fun hw => ?_)
      · obtain ⟨⟨hmS, pm, pg, hm1, hm2, hm3⟩, wA, kA⟩ := id hA
        obtain ⟨hrS, tm, as, hr1, hr2⟩ := id hm2
        obtain ⟨hgS, tg, hg1⟩ := id hm3
        have hle := wA.le
        have hpos := wA.pos
        walk_at "go"
        refine i_lenQ hr1 ?_
        rw [List.length_map, hr2.length]
        walk_at "go"
        refine ⟨by omega, by omega, fun G hG => ?_⟩
        rw [Int.toNat_natCast]
        refine rng0_lc (FilInv S _ G) (FilInv.start e.src hG) (fun i H8 hi hf => ?_) (fun H8 hf => ?_)
        · walk_at "go"
          refine i_ixT (hf.1.at hmS hm1) (i := 1) (v := .ref pg) rfl ?_
          refine i_notInI (hf.1.at hgS hg1) ?_
          walk_at "go"
          refine iteB (fun hx => ?_) (fun hx => ?_)
          · walk_at "go"
            exact hf.add e.src hG (Ev.refl hf.src) (by omega)
          · exact hf.skip e.src hG (Ev.refl hf.src)
        obtain ⟨gd, hgd, hgo⟩ := hf.done e.src hG
        walk_at "go"
        refine ⟨sz2, fun q hq => ?_⟩
        walk_at "go"
        have e8 := hf.1
        have e9 := Ev.laid (o := .tup [.ref pm, .ref G]) e8.src hq
        exact ⟨u, q, A, gA, A, gd, rfl, (e.trans e8).trans e9, (hA.ev e8).ev e9, ⟨e8.src.notin hq, pm, G, upd_same, (hm2.ev e8).ev e9, hgd.ev e9⟩, wA, hgo⟩
      · walk_at "go"
        exact ⟨u, v, A, gA, B, gB, rfl, e, hA, hB⟩
    clear hA hB e
    obtain ⟨u1, v1, A1, gA1, B1, gB1, rfl, e, hA, hB⟩ := hq
    show C8.tCut _ _ _ _ _
    refine i_cut (BothAt S H a a2 al way) ?_ (fun σ H2 hq => ?_)
    · walk_at "go"
      refine ⟨by decide, fun p hp => ?_⟩
      have e2 := Ev.laid (o := .tup [.int 4, .int 8]) e.src hp
      have hin : (upd H3 p (.tup [.int 4, .int 8])) p = some (sq true (([4, 8] : List Nat).map vn)) := upd_same
      refine i_inI hin ?_
      walk_at "go"
      refine iteD (fun hw => ?_) (fun hw => ?_)
      · walk_at "go"
        refine ⟨S, a2, u1, A1, gA1, al.length, rfl, hb, e2.src, hA.1.ev e2, h1, hA.2.1, hA.2.2, fun q A gA H3 e3 hA2 wA kA _ => ?_⟩
        walk_at "go"
        exact ⟨u1, q, A1, gA1, A, gA, rfl, (e.trans e2).trans e3, (hA.ev e2).ev e3, ⟨hA2, wA, kA⟩⟩
      · walk_at "go"
        exact ⟨u1, v1, A1, gA1, B1, gB1, rfl, e.trans e2, hA.ev e2, hB.ev e2⟩
    clear hA hB e
    obtain ⟨u, v, A, gA, B, gB, rfl, e, hA, hB⟩ := hq
    show C8.tCut _ _ _ _ _
    refine i_cut (BothAt S H a a2 al way) ?_ (fun σ H3 hq => ?_)
    · walk_at "go"
      refine iteD (fun hw => ?_) (fun hw => ?_)
      · obtain ⟨⟨hmS, pm, pg, hm1, hm2, hm3⟩, wA, kA⟩ := id hA
        obtain ⟨hgS, tg, hg1⟩ := id hm3
        walk_at "go"
        refine i_listOf hg1 (fun l hl => ?_)
        have e2 := Ev.laid (o := .lst (gA.map vn)) e.src hl
        walk_at "go"
        refine ⟨sz2, fun q hq => ?_⟩
        walk_at "go"
        have e3 := Ev.laid (o := .tup [.ref pm, .ref l]) e2.src hq
        exact ⟨u, q, A, gA, A, gA, rfl, (e.trans e2).trans e3, (hA.ev e2).ev e3, ⟨e2.src.notin hq, pm, l, upd_same, (hm2.ev e2).ev e3, e.src.notin hl, false, e3.at (e.src.notin hl) upd_same⟩, wA, kA⟩
      · walk_at "go"
        exact ⟨u, v, A, gA, B, gB, rfl, e, hA, hB⟩
    clear hA hB e
    obtain ⟨u1, v1, A1, gA1, B1, gB1, rfl, e, hA, hB⟩ := hq
    show C8.tCut _ _ _ _ _
    refine i_cut (BothAt S H a a2 al way) ?_ (fun σ H2 hq => ?_)
    · walk_at "go"
      refine iteD (fun hw => ?_) (fun hw => ?_)
      · walk_at "go"
        refine ⟨by omega, by omega, fun E hE => ?_⟩
        rw [Int.toNat_natCast]
        refine rng0_lc (CelInv S H3 E 1) (CelInv.start e.src hE) (fun j H4 hj hc => ?_) (fun H4 hc => ?_)
        · walk_at "go"
          exact hc.add e.src hE (Ev.refl hc.src) (u := 0) (by decide) (by omega)
        obtain ⟨e4, ns, hns, hns2, hE4⟩ := hc
        walk_at "go"
        refine ⟨sz1, fun D hD => ?_⟩
        have e5 := Ev.laid (o := .lst [.ref E]) e4.src hD
        walk_at "go"
        refine ⟨by decide, fun G1 hG1 => ?_⟩
        have e6 := Ev.laid (o := .lst []) e5.src hG1
        walk_at "go"
        refine ⟨sz1, fun G2 hG2 => ?_⟩
        have e7 := Ev.laid (o := .lst [.int 0]) e6.src hG2
        walk_at "go"
        refine ⟨sz2, fun L hL => ?_⟩
        have e8 := Ev.laid (o := .lst [.ref G1, .ref G2]) e7.src hL
        walk_at "go"
        refine ⟨S, a2, _, rfl, hb, e8.src, by decide, by decide, fun x H5 g2 g3 e9 => ?_⟩
        have nE : ¬ S E := e.src.notin hE
        have nD : ¬ S D := e4.src.notin hD
        have nG1 : ¬ S G1 := e5.src.notin hG1
        have nG2 : ¬ S G2 := e6.src.notin hG2
        have e59 := (e6.trans e7).trans (e8.trans e9)
        have hD5 := e59.at nD upd_same
        have hE5 := (e5.trans e59).at nE hE4
        have hG15 := (e7.trans (e8.trans e9)).at nG1 upd_same
        have hG25 := (e8.trans e9).at nG2 upd_same
        have hL5 := e9.at (e7.src.notin hL) upd_same
        have e05 := e.trans (e4.trans (e5.trans e59))
        have hwf : WF al.length [ns] := .of (by simp) (by simp) h3 (fun r hr => by rw [List.mem_singleton.mp hr]; exact hns) (fun r hr t ht => by rw [List.mem_singleton.mp hr] at ht; exact hns2 t ht)
        have rws : Rows S H5 D [ns] := ⟨nD, false, [E], hD5, .cons ⟨nE, false, hE5⟩ .nil⟩
        have hx : x = 0 ∨ x = 1 := by omega
        rcases hx with rfl | rfl
        · refine i_ixL hL5 (v := .ref G1) rfl ?_
          walk_at "go"
          refine ⟨sz2, fun q hq => ?_⟩
          walk_at "go"
          have e10 := Ev.laid (o := .tup [.ref D, .ref G1]) e05.src hq
          exact ⟨u1, q, A1, gA1, [ns], [], rfl, e05.trans e10, (hA.ev (e4.trans (e5.trans e59))).ev e10, ⟨e05.src.notin hq, D, G1, upd_same, rws.ev e10, nG1, false, e10.at nG1 hG15⟩, hwf, ⟨.nil, by simp⟩⟩
        · refine i_ixL hL5 (v := .ref G2) rfl ?_
          walk_at "go"
          refine ⟨sz2, fun q hq => ?_⟩
          walk_at "go"
          have e10 := Ev.laid (o := .tup [.ref D, .ref G2]) e05.src hq
          exact ⟨u1, q, A1, gA1, [ns], [0], rfl, e05.trans e10, (hA.ev (e4.trans (e5.trans e59))).ev e10, ⟨e05.src.notin hq, D, G2, upd_same, rws.ev e10, nG2, false, e10.at nG2 hG25⟩, hwf, ⟨by simp, by simp⟩⟩
      · walk_at "go"
        exact ⟨u1, v1, A1, gA1, B1, gB1, rfl, e, hA, hB⟩
    clear hA hB e
    obtain ⟨u, v, A, gA, B, gB, rfl, e, hA, hB⟩ := hq
    walk_at "go"
    refine ⟨sz2, fun q hq => ?_⟩
    have e2 := Ev.laid (o := .lst [.ref u, .ref v]) e.src hq
    exact k q u v A gA B gB _ (e.trans e2) (e.src.notin hq) upd_same (hA.ev e2) (hB.ev e2)
end
abbrev s_law_strange : Stmt := top 60
theorem sc_law_strange : FnScope ["alphabet", "readers", "source", "near", "far", "letters", "plain", "stranger", "reader", "word"] ["alphabet", "readers", "source"] (fnScope s_law_strange) := ⟨rfl, rfl, rfl, by decide +kernel, rfl, by decide +kernel, by decide +kernel⟩
theorem ok1 (a : Nat) (h : 97 ≤ a ∧ a ≤ 122) : AlOk [a] := ⟨by show 1 ≤ 1; decide, by show 1 ≤ 3; decide, fun c hc => by rw [List.mem_singleton.mp hc]; exact h, by simp⟩
/-- letters of others -/
theorem strange_l : ∀ al ∈ alMenu, ∃ nl fl : List Nat, atI ([.str "z", .str "bc", .str "abd"] : List V) ((al.length : Int) - 1) = some (.str (SX.S nl)) ∧ atI ([.str "cd", .str "x", .str "mn"] : List V) ((al.length : Int) - 1) = some (.str (SX.S fl)) ∧ AlOk nl ∧ AlOk fl ∧ al ≠ nl ∧ al ≠ fl := by
  have k1 : AlOk [122] := ok1 _ (by decide)
  have k2 : AlOk [98, 99] := ⟨by decide, by decide, by decide, by decide⟩
  have k3 : AlOk [97, 98, 100] := ⟨by decide, by decide, by decide, by decide⟩
  have k4 : AlOk [99, 100] := ⟨by decide, by decide, by decide, by decide⟩
  have k5 : AlOk [120] := ok1 _ (by decide)
  have k6 : AlOk [109, 110] := ⟨by decide, by decide, by decide, by decide⟩
  intro al h
  simp only [alMenu, List.mem_cons, List.not_mem_nil, or_false] at h
  rcases h with h | h | h | h | h | h | h <;> subst h
  · exact ⟨[98, 99], [120], rfl, rfl, k2, k5, by decide, by decide⟩
  · exact ⟨[98, 99], [120], rfl, rfl, k2, k5, by decide, by decide⟩
  · exact ⟨[97, 98, 100], [109, 110], rfl, rfl, k3, k6, by decide, by decide⟩
  · exact ⟨[122], [99, 100], rfl, rfl, k1, k4, by decide, by decide⟩
  · exact ⟨[97, 98, 100], [109, 110], rfl, rfl, k3, k6, by decide, by decide⟩
  · exact ⟨[98, 99], [120], rfl, rfl, k2, k5, by decide, by decide⟩
  · exact ⟨[122], [99, 100], rfl, rfl, k1, k4, by decide, by decide⟩
def unlikeW : List Str := ["value", "unlike 'alphabet'"]
theorem unlikeW_ok : ∀ z ∈ unlikeW, PyData.strOk z = true := by decide +kernel
def sp_law_strange (C : Addr) : Sp := fun vs H Q _ => ∃ (S : AS) (a : Addr) (al : List Nat) (R p q : Addr) (A : Rws) (gA : List Nat) (B : Rws) (gB : List Nat), vs = [.str (SX.S al), .ref R, .ref a] ∧ S a ∧ Srcs S H ∧ AlOk al ∧ al ∈ alMenu ∧ ¬ S R ∧ H R = some (.lst [.ref p, .ref q]) ∧ Rd C S H p al A gA ∧ Rd C S H q al B gB ∧ WF al.length A ∧ WF al.length B ∧ ∀ H', Ev S H H' → Q (.bl true) H'
section
variable {P : Program} {w : World} {K : PySem.W.Frag} {mg : Str → Option Value} {base : Heap} {C : Addr} {r : Er}
set_option maxHeartbeats 4000000 in
theorem ok_law_strange {f : Addr} {fd : FuncData} (F : Def K mg "_law_strange" s_law_strange f fd) (T : Txt K mg C r) (b : Binds K fd ["alphabet", "readers", "source"] []) (c_law_reader : Cal P w K mg base 2 "_law_reader" sp_law_reader []) (c_law_done : Cal P w K mg base 9 "_law_done" (sp_law_done C r) []) (m_Reader : Mak P w K mg base 3 "Reader" C (sp_Readerd_initd C) []) : Cal P w K mg base 10 "_law_strange" (sp_law_strange C) [] := by
  refine cal0 F b .nil sc_law_strange (fun vs H Q E h => ?_) (fun cdv A outer s H vs Q E hr h => ?_)
  · obtain ⟨_, _, _, _, _, _, _, _, _, _, rfl, _⟩ := h
    rfl
  · obtain ⟨S, a, al, R, p, q, A, gA, B, gB, rfl, ha, hS, hal, hm, nR, hR, hp, hq, hwA, hwB, k⟩ := h
    refine ⟨_, (pss_cons (ps_set (i := 3) sc_law_strange.nd rfl (by first | exact Or.inl rfl | exact Or.inr rfl) (pe_ix (ixK K rfl) (pe_lst (pa_cons pe_str (pa_cons pe_str (pa_cons pe_str pa_nil)))) (pe_op op_sub (pe_callB (lenK K rfl) (by rfl) T.b_len (by decide +kernel) (pa_cons (pv 0) pa_nil)) pe_int) (fun _ _ => rfl)))
        (pss_cons (ps_set (i := 4) sc_law_strange.nd rfl (by first | exact Or.inl rfl | exact Or.inr rfl) (pe_ix (ixK K rfl) (pe_lst (pa_cons pe_str (pa_cons pe_str (pa_cons pe_str pa_nil)))) (pe_op op_sub (pe_callB (lenK K rfl) (by rfl) T.b_len (by decide +kernel) (pa_cons (pv 0) pa_nil)) pe_int) (fun _ _ => rfl)))
        (pss_cons (ps_for PassesOwn.never rfl (seqK K rfl (pe_lst (pa_cons (pv 3) (pa_cons (pv 4) pa_nil)))) (pg_name (i := 5) sc_law_strange.nd rfl (by first | exact Or.inl rfl | exact Or.inr rfl))
        (pss_cons (ps_set (i := 6) sc_law_strange.nd rfl (by first | exact Or.inl rfl | exact Or.inr rfl) (pe_c c_law_reader hr (by decide) rfl (pa_cons (pv 2) (pa_cons (pe_callB (lenK K rfl) (by rfl) T.b_len (by decide +kernel) (pa_cons (pv 5) pa_nil)) (pa_cons pe_int pa_nil)))))
        (pss_cons (ps_set (i := 7) sc_law_strange.nd rfl (by first | exact Or.inl rfl | exact Or.inr rfl) (pe_mk m_Reader hr (by decide) rfl (pa_cons (pv 5) (pa_cons (pe_ix (ixK K rfl) (pv 6) pe_int (fun _ _ => rfl)) (pa_cons (pe_ix (ixK K rfl) (pv 6) pe_int (fun _ _ => rfl)) pa_nil)))))
        (pss_one (ps_for PassesOwn.never rfl (seqK K rfl (pv 1)) (pg_name (i := 8) sc_law_strange.nd rfl (by first | exact Or.inl rfl | exact Or.inr rfl))
        (pss_one (ps_for PassesOwn.never rfl (seqK K rfl (pe_lst (pa_cons pe_str (pa_cons pe_str (pa_cons pe_str pa_nil))))) (pg_name (i := 9) sc_law_strange.nd rfl (by first | exact Or.inl rfl | exact Or.inr rfl))
        (pss_cons (ps_if (pt_cmpR (neDK K rfl hr.units) (pe_c c_law_done hr (by decide) rfl (pa_cons (pv 9) (pa_cons (pv 8) (pa_cons (pv 7) pa_nil)))) (pe_lst (pa_cons pe_str (pa_cons pe_str pa_nil))) (nomark _)) (pss_one (ps_ret pe_bl)) pss_nil)
        (pss_one (ps_if (pt_cmpR (neDK K rfl hr.units) (pe_c c_law_done hr (by decide) rfl (pa_cons (pv 9) (pa_cons (pv 7) (pa_cons (pv 8) pa_nil)))) (pe_lst (pa_cons pe_str (pa_cons pe_str pa_nil))) (nomark _)) (pss_one (ps_ret pe_bl)) pss_nil))))))))))
        (pss_one (ps_ret pe_bl))))), ?_⟩
    obtain ⟨nl, fl, n1, n2, ok1, ok2, ne1, ne2⟩ := strange_l al hm
    have h1 := hal.pos
    have h3 := hal.le
    have hl : (SX.S al).length = al.length := SX.S_len al
    walk_at "go"
    refine ⟨sz3, fun m1 hm1 => ?_⟩
    have e1 := Ev.laid (o := .lst [.str "z", .str "bc", .str "abd"]) hS hm1
    walk_at "go"
    refine i_lenS (szl (by omega)) ?_
    rw [hl]
    walk_at "go"
    refine i_ixL upd_same n1 ?_
    walk_at "go"
    refine ⟨sz3, fun m2 hm2 => ?_⟩
    have e2 := Ev.laid (o := .lst [.str "cd", .str "x", .str "mn"]) e1.src hm2
    walk_at "go"
    refine i_lenS (szl (by omega)) ?_
    rw [hl]
    walk_at "go"
    refine i_ixL upd_same n2 ?_
    walk_at "go"
    refine ⟨sz2, fun L hL => ?_⟩
    have e3 := Ev.laid (o := .lst [.str (SX.S nl), .str (SX.S fl)]) e2.src hL
    have nL := e2.src.notin hL
    have e03 := e1.trans (e2.trans e3)
    have hL3 : (upd (upd (upd H m1 (.lst [.str "z", .str "bc", .str "abd"])) m2 (.lst [.str "cd", .str "x", .str "mn"])) L (.lst [.str (SX.S nl), .str (SX.S fl)])) L = some (.lst [.str (SX.S nl), .str (SX.S fl)]) := upd_same
    generalize (upd (upd (upd H m1 (.lst [.str "z", .str "bc", .str "abd"])) m2 (.lst [.str "cd", .str "x", .str "mn"])) L (.lst [.str (SX.S nl), .str (SX.S fl)])) = H3 at *
    have hlet : ∀ (i : Nat) (v : V), ([V.str (SX.S nl), V.str (SX.S fl)] : List V)[i]? = some v → ∃ bl, v = .str (SX.S bl) ∧ AlOk bl ∧ al ≠ bl := fun i v h => by
      have hi := (List.getElem?_eq_some_iff.mp h).1
      have hi : i = 0 ∨ i = 1 := by simp at hi; omega
      rcases hi with rfl | rfl
      · cases h; exact ⟨nl, rfl, ok1, ne1⟩
      · cases h; exact ⟨fl, rfl, ok2, ne2⟩
    have hrd : ∀ (i : Nat) (v : V), ([V.ref p, V.ref q] : List V)[i]? = some v → ∃ (c : Addr) (D : Rws) (gD : List Nat), v = .ref c ∧ Rd C S H c al D gD ∧ WF al.length D := fun i v h => by
      have hi := (List.getElem?_eq_some_iff.mp h).1
      have hi : i = 0 ∨ i = 1 := by simp at hi; omega
      rcases hi with rfl | rfl
      · cases h; exact ⟨p, A, gA, rfl, hp, hwA⟩
      · cases h; exact ⟨q, B, gB, rfl, hq, hwB⟩
    refine seq_for (t := false) hL3 (fun i σ H' => ∃ x5 x6 x7 x8 x9, σ = [some (.str (SX.S al)), some (.ref R), some (.ref a), some (.str (SX.S nl)), some (.str (SX.S fl)), x5, x6, x7, x8, x9] ∧ Ev S H3 H') ⟨_, _, _, _, _, rfl, .refl e03.src⟩ (fun i σ H' _ ⟨_, _, _, _, _, _, e⟩ => e.at nL hL3) (fun i v σ H' hv hq => ?_) (fun σ H' hq => ?_)
    · obtain ⟨x5, x6, x7, x8, x9, rfl, e4⟩ := hq
      obtain ⟨bl, rfl, hbl, hne⟩ := hlet i v hv
      have hb1 := hbl.pos
      have hb3 := hbl.le
      have hlb : (SX.S bl).length = bl.length := SX.S_len bl
      walk_at "go"
      refine i_lenS (szl (by omega)) ?_
      rw [hlb]
      walk_at "go"
      refine ⟨S, a, bl.length, 3, rfl, ha, e4.src, hb1, hb3, by decide, by decide, fun u rs gd H5 e5 hm hw hg _ => ?_⟩
      obtain ⟨huS, pm, pg, hu1, hu2, hu3⟩ := hm
      walk_at "go"
      intro x dx hx0 hdx hne1
      have s5 : Same H5 (upd (upd H5 dx (.own x)) x (.ins C dx [])) := (same_laid hdx).trans (same_laid (by rw [upd_ne hne1.symm]; exact hx0))
      have e6 : Ev S H5 (upd (upd H5 dx (.own x)) x (.ins C dx [])) := .of_same e5.src s5
      have hxS : ¬ S x := e5.src.notin hx0
      refine ⟨S, x, dx, bl, pm, rs, pg, gd, rfl, e6.src.to, upd_same, hbl, hu2.ev e6, hu3.ev e6, hw, hg, fun H6 qm qg kk g1 g2 g3 => ⟨rfl, ?_⟩⟩
      have s6 := made_same hx0 hdx kk
      have e7 : Ev S H5 H6 := .of_same e5.src s6
      have hx6 : Rd C S H6 x bl rs gd := ⟨hxS, dx, qm, qg, g1, g2, g3⟩
      have e36 := e4.trans (e5.trans e7)
      have hS6 := e36.src
      have e06 := e03.trans e36
      walk_at "go"
      refine seq_for (t := false) (e06.at nR hR) (fun i σ H' => ∃ x8 x9, σ = [some (.str (SX.S al)), some (.ref R), some (.ref a), some (.str (SX.S nl)), some (.str (SX.S fl)), some (.str (SX.S bl)), some (.ref u), some (.ref x), x8, x9] ∧ Same H6 H') ⟨_, _, rfl, .refl _⟩ (fun i σ H' _ ⟨_, _, _, s⟩ => s _ _ (e06.at nR hR)) (fun i v σ H' hv hq => ?_) (fun σ H' hq => ?_)
      · obtain ⟨x8, x9, rfl, s7⟩ := hq
        obtain ⟨c, D, gD, rfl, hc, hwD⟩ := hrd i v hv
        have hc7 := (hc.ev e06).same s7
        walk_at "go"
        refine ⟨sz3, fun W hW => ?_⟩
        have s8 : Same H6 (upd H' W (.lst [.str "and", .str "or", .str "less"])) := s7.trans (same_laid hW)
        have hW8 : (upd H' W (.lst [.str "and", .str "or", .str "less"])) W = some (.lst [.str "and", .str "or", .str "less"]) := upd_same
        generalize (upd H' W (.lst [.str "and", .str "or", .str "less"])) = H8 at *
        have hwd : ∀ (i : Nat) (v : V), ([V.str "and", V.str "or", V.str "less"] : List V)[i]? = some v → ∃ (wd : Str) (Ws : List Nat), v = .str wd ∧ (wd, Ws) ∈ opW ∧ Ws ≠ [] := fun i v h => by
          have hi := (List.getElem?_eq_some_iff.mp h).1
          have hi : i = 0 ∨ i = 1 ∨ i = 2 := by simp at hi; omega
          rcases hi with rfl | rfl | rfl
          · cases h; exact ⟨"and", [3], rfl, by simp [opW], by decide⟩
          · cases h; exact ⟨"or", [1, 2, 3], rfl, by simp [opW], by decide⟩
          · cases h; exact ⟨"less", [1], rfl, by simp [opW], by decide⟩
        refine seq_for (t := false) hW8 (fun i σ H' => ∃ x9, σ = [some (.str (SX.S al)), some (.ref R), some (.ref a), some (.str (SX.S nl)), some (.str (SX.S fl)), some (.str (SX.S bl)), some (.ref u), some (.ref x), some (.ref c), x9] ∧ Same H8 H') ⟨_, rfl, .refl _⟩ (fun i σ H' _ ⟨_, _, s⟩ => s _ _ hW8) (fun i v σ H' hv hq => ?_) (fun σ H' hq => ?_)
        · obtain ⟨x9, rfl, s9⟩ := hq
          obtain ⟨wd, Ws, rfl, hop, hWs⟩ := hwd i v hv
          have s69 := s8.trans s9
          have hx9 := hx6.same s69
          have hc9 := (hc.ev e06).same s69
          walk_at "go"
          refine ⟨S, c, x, al, D, gD, bl, rs, gd, wd, Ws, rfl, hc9, hx9, hal, hwD, hw, hop, fun z => absurd z hWs, fun _ z => absurd z hne, fun _ _ l H10 s10 hl0 hl1 => ?_⟩
          walk_at "go"
          refine ⟨sz2, fun m hm => ?_⟩
          have s11 : Same H10 (upd H10 m (.lst [.str "value", .str "unlike 'alphabet'"])) := same_laid hm
          refine i_neStrsL (a := unlikeW) (b := unlikeW) unlikeW_ok unlikeW_ok (s11 _ _ hl1) upd_same ?_
          walk_at "go"
          refine ite_ndf (rfl : unlikeW = unlikeW) ?_
          walk_at "go"
          have s611 := s69.trans (s10.trans s11)
          have hx11 := hx6.same s611
          have hc11 := (hc.ev e06).same s611
          refine ⟨S, x, c, bl, rs, gd, al, D, gD, wd, Ws, rfl, hx11, hc11, hbl, hw, hwD, hop, fun z => absurd z hWs, fun _ z => absurd z.symm hne, fun _ _ l H12 s12 hl0 hl1 => ?_⟩
          walk_at "go"
          refine ⟨sz2, fun m hm => ?_⟩
          have s13 : Same H12 (upd H12 m (.lst [.str "value", .str "unlike 'alphabet'"])) := same_laid hm
          refine i_neStrsL (a := unlikeW) (b := unlikeW) unlikeW_ok unlikeW_ok (s13 _ _ hl1) upd_same ?_
          walk_at "go"
          refine ite_ndf (rfl : unlikeW = unlikeW) ?_
          walk_at "go"
          exact ⟨_, rfl, ((s9.trans (s10.trans s11)).trans s12).trans s13⟩
        · obtain ⟨x9, rfl, s9⟩ := hq
          exact ⟨_, _, rfl, s8.trans s9⟩
      · obtain ⟨x8, x9, rfl, s7⟩ := hq
        exact ⟨_, _, _, _, _, rfl, e36.trans (.of_same hS6 s7)⟩
    · obtain ⟨x5, x6, x7, x8, x9, rfl, e4⟩ := hq
      walk_at "go"
      exact k _ (e03.trans e4)
end
abbrev s_law_turned : Stmt := top 61
theorem sc_law_turned : FnScope ["alphabet", "machine", "reader", "turned", "every", "none", "again"] ["alphabet", "machine", "reader"] (fnScope s_law_turned) := ⟨rfl, rfl, rfl, by decide +kernel, rfl, by decide +kernel, by decide +kernel⟩
section
variable {m : Nat} {rs A B : Rws} {gd gA gB W : List Nat} {k : Nat} {u : List Nat}
theorem nG_lang (w : WFB m rs) (hu : ∀ a ∈ u, a < m) : run rs 0 u ∈ nGood rs gd ↔ ¬ run rs 0 u ∈ gd := by
  simp [nGood, List.mem_filter, w.run_lt w.pos hu]
theorem nG_ok : GOK rs.length (nGood rs gd) := GOK.filter _
theorem jG_lang (d : Done (jn m A B) (0, 0) k) (hu : ∀ a ∈ u, a < m) : run (gRows (jn m A B) (jAt m A B k)) 0 u ∈ jGood m A B gA gB W k ↔ jf gA gB W (run A 0 u, run B 0 u) = true := jLang d _ hu
theorem j_k (wA : WF m A) (wB : WF m B) (d : Done (jn m A B) (0, 0) k) : k ≤ 4000 := by
  have h1 := pairs_len (g_nd (nx := jn m A B) (s := (0, 0)) k) (j_lt wA.b wB.b k)
  have h2 : A.length * B.length ≤ 3600 := Nat.mul_le_mul wA.le wB.le
  have h3 := d.len
  have h4 : (jAt m A B k).length = (gAt (jn m A B) (0, 0) k).length := rfl
  omega
theorem j_wf (wA : WF m A) (wB : WF m B) (d : Done (jn m A B) (0, 0) k) : WFB m (gRows (jn m A B) (jAt m A B k)) := gRows_wf d (j_k wA wB d) wA.m3 (fun x _ => jn_len x)
theorem row0_run (u : List Nat) : run (row0 m) 0 u = 0 := by
  have h : ∀ a, stp (row0 m) 0 a = 0 := fun a => by
    show (row (row0 m) 0).getD a 0 = 0
    show (List.replicate m 0).getD a 0 = 0
    rw [List.getD_eq_getElem?_getD, List.getElem?_replicate]
    by_cases h : a < m <;> simp [h]
  induction u with
  | nil => rfl
  | cons a u ih =>
    show run (row0 m) (stp (row0 m) 0 a) u = 0
    rw [h]
    exact ih
theorem adds0 : ∀ n, addsN [0] (List.replicate n 0) = [0]
  | 0 => rfl
  | n + 1 => by
    rw [List.replicate_succ]
    show addsN (if 0 ∈ [0] then [0] else [0] ++ [0]) (List.replicate n 0) = [0]
    rw [if_pos (List.mem_singleton.mpr rfl)]
    exact adds0 n
theorem row0_canon (g : List Nat) : Canon m (row0 m) g where
  ord := by
    show addsN [0] (List.replicate m 0) = [0]
    exact adds0 m
  sep := fun p q hp hq _ => by
    have hp : p < 1 := hp
    have hq : q < 1 := hq
    omega
theorem turn_lang (w : WF m rs) (h : LeastOf rs (nGood rs gd) A gA) : WF m A ∧ GOK A.length gA ∧ Canon m A gA ∧ ∀ u : List Nat, (∀ a ∈ u, a < m) → (run A 0 u ∈ gA ↔ ¬ run rs 0 u ∈ gd) := by
  obtain ⟨wA, oA, hL, cA⟩ := h.main w.b
  exact ⟨⟨wA, Nat.le_trans (least_len w.b h) w.le⟩, oA, cA, fun u hu => (hL u hu).symm.trans (nG_lang w.b hu)⟩
theorem row0_wfb (hm : m ≤ 3) : WFB m (row0 m) := (WF.of (by show 0 < 1; decide) (by show 1 ≤ 60; decide) hm (fun r hr => by rw [List.mem_singleton.mp hr, List.length_replicate]) (fun r hr t ht => by
  rw [List.mem_singleton.mp hr] at ht
  rw [(List.mem_replicate.mp ht).2]
  show 0 < 1
  decide)).b
theorem row0_least {J B : Rws} {g gB g0 : List Nat} (wJ : WFB m J) (hm : m ≤ 3) (h : LeastOf J g B gB) (ok0 : GOK 1 g0) (hl : ∀ u : List Nat, (∀ a ∈ u, a < m) → (run J 0 u ∈ g ↔ 0 ∈ g0)) : B = row0 m ∧ gB = g0 := by
  obtain ⟨wB, oB, hL, cB⟩ := h.main wJ
  exact canon_uniq wB (row0_wfb hm) oB ok0 cB (row0_canon g0) fun u hu => (hL u hu).symm.trans ((hl u hu).trans (by rw [row0_run]))
theorem turn_every (w : WF m rs) (h : LeastOf rs (nGood rs gd) A gA) (d : Done (jn m rs A) (0, 0) k) (hB : LeastOf (gRows (jn m rs A) (jAt m rs A k)) (jGood m rs A gd gA [1, 2, 3] k) B gB) : B = row0 m ∧ gB = [0] := by
  obtain ⟨wA, oA, cA, hl⟩ := turn_lang w h
  refine row0_least (j_wf w wA d) w.m3 hB ⟨by simp, by simp⟩ fun u hu => (jG_lang d hu).trans ⟨fun _ => by simp, fun _ => ?_⟩
  have e := hl u hu
  by_cases h1 : run rs 0 u ∈ gd
  · have h2 : ¬ run A 0 u ∈ gA := fun z => e.mp z h1
    simp [jf, h1, h2]
  · have h2 : run A 0 u ∈ gA := e.mpr h1
    simp [jf, h1, h2]
theorem turn_none (w : WF m rs) (h : LeastOf rs (nGood rs gd) A gA) (d : Done (jn m A rs) (0, 0) k) (hB : LeastOf (gRows (jn m A rs) (jAt m A rs k)) (jGood m A rs gA gd [3] k) B gB) : B = row0 m ∧ gB = [] := by
  obtain ⟨wA, oA, cA, hl⟩ := turn_lang w h
  refine row0_least (j_wf wA w d) w.m3 hB ⟨by simp, by simp⟩ fun u hu => (jG_lang d hu).trans ⟨fun z => ?_, fun z => by simp at z⟩
  have e := hl u hu
  by_cases h1 : run rs 0 u ∈ gd
  · have h2 : ¬ run A 0 u ∈ gA := fun z => e.mp z h1
    simp [jf, h1, h2] at z
  · have h2 : run A 0 u ∈ gA := e.mpr h1
    simp [jf, h1, h2] at z
end
section
variable {C : Addr} {E : XK} {Z : AS} {H : Hp} {p q : Addr} {al : List Nat} {rs : Rws} {gd : List Nat} {rs' : Rws} {gd' : List Nat} {Q : VK}
theorem own_eq (hp : U.Rd C Z H p al rs gd) (hq : U.Rd C Z H q al rs' gd') (h1 : rs.length ≤ 60) (h2 : rs'.length ≤ 60) (k : Q (.bl (decide (rs = rs' ∧ gd = gd'))) H) : rOwnEq C (sp_Readerd_eqd C) E (.ref p) (.ref q) H Q := by
  obtain ⟨_, dx, pm, pg, a1, _, _⟩ := id hp
  obtain ⟨_, dy, qm, qg, b1, _, _⟩ := id hq
  exact ⟨p, dx, _, q, dy, _, rfl, rfl, a1, b1, Z, p, q, al, rs, gd, rs', gd', rfl, hp, hq, h1, h2, _, rfl, k⟩
end
def sp_law_turned (C : Addr) : Sp := fun vs H Q _ => ∃ (Z : AS) (al : List Nat) (q p : Addr) (rs : Rws) (gd : List Nat), vs = [.str (SX.S al), .ref q, .ref p] ∧ Mach Z H q rs gd ∧ Rd C Z H p al rs gd ∧ AlOk al ∧ WF al.length rs ∧ GOK rs.length gd ∧ ∀ H', Same H H' → Q (.bl true) H'
section
variable {P : Program} {w : World} {K : PySem.W.Frag} {mg : Str → Option Value} {base : Heap} {C : Addr} {r : Er}
set_option maxHeartbeats 4000000 in
theorem ok_law_turned {f : Addr} {fd : FuncData} (F : Def K mg "_law_turned" s_law_turned f fd) (T : Txt K mg C r) (b : Binds K fd ["alphabet", "machine", "reader"] []) (c_law_done : Cal P w K mg base 9 "_law_done" (sp_law_done C r) []) (c_law_tells : Cal P w K mg base 3 "_law_tells" (sp_law_tells C) []) (s_full : StM P w K mg base 5 "Reader" C "full" (sp_Reader_full C)) (s_bare : StM P w K mg base 5 "Reader" C "bare" (sp_Reader_bare C)) (o_eq : OwnCal P w K mg base 1 C "__eq__" (sp_Readerd_eqd C)) : Cal P w K mg base 10 "_law_turned" (sp_law_turned C) [] := by
  refine cal0 F b .nil sc_law_turned (fun vs H Q E h => ?_) (fun cdv A outer s H vs Q E hr h => ?_)
  · obtain ⟨_, _, _, _, _, _, rfl, _⟩ := h
    rfl
  · obtain ⟨Z, al, q, p, rs, gd, rfl, hq, hp, ha, hw, hg, k⟩ := h
    refine ⟨_, (pss_cons (ps_set (i := 3) sc_law_turned.nd rfl (by first | exact Or.inl rfl | exact Or.inr rfl) (pe_c c_law_done hr (by decide) rfl (pa_cons pe_str (pa_cons (pv 2) (pa_cons (pv 2) pa_nil)))))
        (pss_cons (ps_if (pt_val (pe_callB (isiK K rfl) (by rfl) T.b_isinstance (by decide +kernel) (pa_cons (pv 3) (pa_cons (pe_bltn (v := .ty "list") (u := .type "list") (by rfl) T.b_list (by decide +kernel) rfl) pa_nil)))) (pss_one (ps_ret pe_bl)) pss_nil)
        (pss_cons (ps_set (i := 4) sc_law_turned.nd rfl (by first | exact Or.inl rfl | exact Or.inr rfl) (pe_c c_law_done hr (by decide) rfl (pa_cons pe_str (pa_cons (pv 2) (pa_cons (pv 3) pa_nil)))))
        (pss_cons (ps_set (i := 5) sc_law_turned.nd rfl (by first | exact Or.inl rfl | exact Or.inr rfl) (pe_c c_law_done hr (by decide) rfl (pa_cons pe_str (pa_cons (pv 3) (pa_cons (pv 2) pa_nil)))))
        (pss_cons (ps_set (i := 6) sc_law_turned.nd rfl (by first | exact Or.inl rfl | exact Or.inr rfl) (pe_c c_law_done hr (by decide) rfl (pa_cons pe_str (pa_cons (pv 3) (pa_cons (pv 3) pa_nil)))))
        (pss_cons (ps_if (PW.pt (pw_or (pt_val (pe_callB (isiK K rfl) (by rfl) T.b_isinstance (by decide +kernel) (pa_cons (pv 4) (pa_cons (pe_bltn (v := .ty "list") (u := .type "list") (by rfl) T.b_list (by decide +kernel) rfl) pa_nil)))) (pw_or (pt_val (pe_callB (isiK K rfl) (by rfl) T.b_isinstance (by decide +kernel) (pa_cons (pv 5) (pa_cons (pe_bltn (v := .ty "list") (u := .type "list") (by rfl) T.b_list (by decide +kernel) rfl) pa_nil)))) (pw_or1 (pt_val (pe_callB (isiK K rfl) (by rfl) T.b_isinstance (by decide +kernel) (pa_cons (pv 6) (pa_cons (pe_bltn (v := .ty "list") (u := .type "list") (by rfl) T.b_list (by decide +kernel) rfl) pa_nil)))))))) (pss_one (ps_ret pe_bl)) pss_nil)
        (pss_one (ps_ret (pe_and (pe_cmpR (ownEq o_eq hr (by decide)) (pv 4) (pe_stat s_full hr (by decide) rfl (pa_cons (pv 0) pa_nil)) (nomark _)) (pe_and (pe_cmpR (ownEq o_eq hr (by decide)) (pv 5) (pe_stat s_bare hr (by decide) rfl (pa_cons (pv 0) pa_nil)) (nomark _)) (pe_one (pe_c c_law_tells hr (by decide) rfl (pa_cons (pv 0) (pa_cons (pv 1) (pa_cons (pv 6) pa_nil))))))))))))))), ?_⟩
    walk_at "go"
    refine ⟨Z, p, p, al, rs, gd, al, rs, gd, "not", [], rfl, hp, hp, ha, hw, hw, by simp [opW], fun _ => ⟨fun A1 g1 hL1 h60 t1 H1 s1 ht1 hR1 => ?_, fun A1 g1 hL1 h60 _ _ _ _ _ => absurd (Nat.le_trans (least_len hw.b hL1) hw.le) (by omega)⟩, fun z => absurd rfl z, fun z => absurd rfl z⟩
    have isl : ∀ (t : Addr) (H1 : Hp) (Z : AS) A g (G : VK), Rd C Z H1 t al A g → G (.bl false) H1 → rIsi K [.ref t, .ty "list"] H1 G := fun t H1 Z A g G hR hG => by
      obtain ⟨_, dx, pm, pg, ht1, _⟩ := id hR
      exact ⟨.ref t, .ty "list", .ref C, .type "list", false, rfl, .ty _, .base (.ins ht1 T.ins.cl T.ins.ha T.ins.hn T.ins.htk T.ins.hm), T.kl, hG⟩
    have nul : ∀ {Z : AS} {H1 : Hp} {t : Addr} {A g}, Rd C Z H1 t al A g → Rd C (fun _ => False) H1 t al A g := fun h => h.weak fun _ z => z.elim
    obtain ⟨wA1, oA1, cA1, lA1⟩ := turn_lang hw hL1
    walk_at "go"
    refine isl t1 H1 _ _ _ _ hR1 ?_
    walk_at "go"
    have hp1 := nul (hp.same s1)
    have hT1 := nul hR1
    refine ⟨_, p, t1, al, rs, gd, al, A1, g1, "or", [1, 2, 3], rfl, hp1, hT1, ha, hw, wA1, by simp [opW], fun z => absurd z (by decide), fun _ _ k2 d2 => ⟨fun A2 g2 hL2 _ t2 H2 s2 ht2 hR2 => ?_, fun A2 g2 hL2 h60 _ _ _ _ _ => absurd h60 (by rw [(turn_every hw hL1 d2 hL2).1]; show ¬ 60 < 1; decide)⟩, fun _ z => absurd rfl z⟩
    obtain ⟨rfl, rfl⟩ := turn_every hw hL1 d2 hL2
    walk_at "go"
    have hp2 := hp1.same s2
    have hT12 := hT1.same s2
    have hT2 := nul hR2
    refine ⟨_, t1, p, al, A1, g1, al, rs, gd, "and", [3], rfl, hT12, hp2, ha, wA1, hw, by simp [opW], fun z => absurd z (by decide), fun _ _ k3 d3 => ⟨fun A3 g3 hL3 _ t3 H3 s3 ht3 hR3 => ?_, fun A3 g3 hL3 h60 _ _ _ _ _ => absurd h60 (by rw [(turn_none hw hL1 d3 hL3).1]; show ¬ 60 < 1; decide)⟩, fun _ z => absurd rfl z⟩
    obtain ⟨rfl, rfl⟩ := turn_none hw hL1 d3 hL3
    walk_at "go"
    have hT13 := hT12.same s3
    have hT23 := hT2.same s3
    have hT3 := nul hR3
    refine ⟨_, t1, t1, al, A1, g1, al, A1, g1, "not", [], rfl, hT13, hT13, ha, wA1, wA1, by simp [opW], fun _ => ⟨fun A4 g4 hL4 h60 t4 H4 s4 ht4 hR4 => ?_, fun A4 g4 hL4 h60 _ _ _ _ _ => absurd (Nat.le_trans (least_len wA1.b hL4) wA1.le) (by omega)⟩, fun z => absurd rfl z, fun z => absurd rfl z⟩
    obtain ⟨wA4, oA4, cA4, lA4⟩ := turn_lang wA1 hL4
    have hT24 := hT23.same s4
    have hT34 := hT3.same s4
    have hT4 := nul hR4
    walk_at "go"
    refine isl t2 H4 _ _ _ _ hT24 ?_
    walk_at "go"
    refine isl t3 H4 _ _ _ _ hT34 ?_
    walk_at "go"
    refine isl t4 H4 _ _ _ _ hT4 ?_
    walk_at "go"
    refine ⟨al, rfl, ha, fun f H5 s5 hf hF => ?_⟩
    have r1 : (row0 al.length).length ≤ 60 := by show 1 ≤ 60; decide
    refine own_eq (hT24.same s5) (nul hF) r1 r1 ?_
    walk_at "go"
    refine ite_dt ⟨rfl, rfl⟩ ?_
    walk_at "go"
    refine ⟨al, rfl, ha, fun f2 H6 s6 hf2 hF2 => ?_⟩
    refine own_eq ((hT34.same s5).same s6) (nul hF2) r1 r1 ?_
    walk_at "go"
    refine ite_dt ⟨rfl, rfl⟩ ?_
    walk_at "go"
    have s16 := s1.trans (s2.trans (s3.trans (s4.trans (s5.trans s6))))
    refine ⟨fun _ => False, al, q, t4, rs, gd, A4, g4, rfl, (hq.weak fun _ z => z.elim).same s16, (hT4.same s5).same s6, ha, hw.b, hg, wA4, oA4, fun u hu => ?_, cA4, fun H7 s7 => k H7 (s16.trans s7)⟩
    rw [lA4 u hu, lA1 u hu]
    exact Decidable.not_not.symm
end
abbrev s_law_asked : Stmt := top 62
theorem sc_law_asked : FnScope ["alphabet", "plains", "readers", "ask", "words", "word", "i", "j", "machine", "told", "text", "due"] ["alphabet", "plains", "readers", "ask", "words"] (fnScope s_law_asked) := ⟨rfl, rfl, rfl, by decide +kernel, rfl, by decide +kernel, by decide +kernel⟩
theorem done_uniq {α : Type} [DecidableEq α] {nx : α → List α} {s : α} {k l : Nat} (a : Done nx s k) (b : Done nx s l) : k = l := by
  rcases Nat.lt_trichotomy k l with h | h | h
  · have := b.ok k h
    rw [a.len] at this
    omega
  · exact h
  · have := a.ok l h
    rw [b.len] at this
    omega
theorem due_jf {wd : Str} {W gA gB : List Nat} (h : (wd, W) ∈ opW) (hW : W ≠ []) : dueF wd gA gB = jf gA gB W := by
  funext pr
  have hcases : (wd = "and" ∧ W = [3]) ∨ (wd = "or" ∧ W = [1, 2, 3]) ∨ (wd = "less" ∧ W = [1]) ∨ (wd = "not" ∧ W = []) := by
    simp only [opW, List.mem_cons, List.not_mem_nil, or_false, Prod.mk.injEq] at h
    exact h
  obtain ⟨n1, n2, n3, n4, n5, n6⟩ := ops_ne
  rcases hcases with ⟨rfl, rfl⟩ | ⟨rfl, rfl⟩ | ⟨rfl, rfl⟩ | ⟨rfl, rfl⟩
  · by_cases h1 : pr.1 ∈ gA <;> by_cases h2 : pr.2 ∈ gB <;> simp [dueF, dueB, jf, h1, h2]
  · by_cases h1 : pr.1 ∈ gA <;> by_cases h2 : pr.2 ∈ gB <;> simp [dueF, dueB, jf, h1, h2, n1]
  · by_cases h1 : pr.1 ∈ gA <;> by_cases h2 : pr.2 ∈ gB <;> simp [dueF, dueB, jf, h1, h2, n2, n3]
  · exact absurd rfl hW
theorem due_not {gA gB : List Nat} (pr : Nat × Nat) : dueF "not" gA gB pr = !decide (pr.1 ∈ gA) := by
  obtain ⟨n1, n2, n3, n4, n5, n6⟩ := ops_ne
  simp [dueF, dueB, n4, n5, n6]
theorem ops_W {wd : Str} (h : wd ∈ opsW) : ∃ W, (wd, W) ∈ opW ∧ (W = [] → wd = "not") := by
  simp only [opsW, List.mem_cons, List.not_mem_nil, or_false] at h
  rcases h with rfl | rfl | rfl | rfl
  · exact ⟨[3], by simp [opW], fun z => by cases z⟩
  · exact ⟨[1, 2, 3], by simp [opW], fun z => by cases z⟩
  · exact ⟨[1], by simp [opW], fun z => by cases z⟩
  · exact ⟨[], by simp [opW], fun _ => rfl⟩
def jG (m : Nat) (A B : Rws) (wd : Str) (gA gB : List Nat) (k : Nat) : List Nat := gGood (dueF wd gA gB) (0, 0) (jAt m A B k)
def TellsOr (C : Addr) (H : Hp) (t : Addr) (al : List Nat) (rs : Rws) (gd : List Nat) : Prop := TellsR C H t al rs gd ∨ (H t = some (.lst (manyRoom.map V.str)) ∧ ∀ k, cnt (List.range rs.length) (sigB rs gd (k + 1)) = cnt (List.range rs.length) (clsB rs gd k) → 60 < cnt (List.range rs.length) (sigB rs gd (k + 1)))
theorem done_go {C : Addr} {r : Er} {Z : AS} {H : Hp} {ra rb : Addr} {al : List Nat} {A B : Rws} {gA gB W : List Nat} {wd : Str} {k : Nat} {G : VK} (d : Done (jn al.length A B) (0, 0) k) (hra : Rd C Z H ra al A gA) (hrb : Rd C Z H rb al B gB) (ha : AlOk al) (hwA : WF al.length A) (hwB : WF al.length B) (hop : (wd, W) ∈ opW) (hW0 : W = [] → wd = "not")
    (go : ∀ u H2, Same H H2 → TellsOr C H2 u al (gRows (jn al.length A B) (jAt al.length A B k)) (jG al.length A B wd gA gB k) → G (.ref u) H2) : sp_law_done C r [.str wd, .ref ra, .ref rb] H G C8.E0 := by
  have wJ := j_wf hwA hwB d
  refine ⟨Z, ra, rb, al, A, gA, al, B, gB, wd, W, rfl, hra, hrb, ha, hwA, hwB, hop, fun hW => ⟨fun D gD hL h60 p' H2 s hp hR => ?_, fun D gD hL h60 _ _ _ _ _ => absurd (Nat.le_trans (least_len hwA.b hL) hwA.le) (by omega)⟩, fun hW _ k2 d2 => ?_, fun _ z => absurd rfl z⟩
  · obtain ⟨wD, oD, lD, cD⟩ := hL.main hwA.b
    have e := hW0 hW
    subst e
    refine go p' H2 s (.inl ⟨_, D, gD, hR, ⟨wD, h60⟩, oD, fun u hu => ?_, cD⟩)
    rw [← lD u hu, nG_lang hwA.b hu, jG, jLang d _ hu, due_not]
    simp
  · have e := done_uniq d d2
    subst e
    have ej : jGood al.length A B gA gB W k = jG al.length A B wd gA gB k := by
      unfold jGood jG
      rw [due_jf hop hW]
    rw [ej]
    refine ⟨fun D gD hL h60 p' H2 s hp hR => ?_, fun D gD hL h60 l H2 s hl hl2 => ?_⟩
    · obtain ⟨wD, oD, lD, cD⟩ := hL.main wJ
      exact go p' H2 s (.inl ⟨_, D, gD, hR, ⟨wD, h60⟩, oD, lD, cD⟩)
    · exact go l H2 s (.inr ⟨hl2, fun q hq => Nat.lt_of_lt_of_le h60 (least_cls wJ hL hq)⟩)
section
variable {C : Addr} {E : XK} {Z : AS} {H : Hp} {p : Addr} {al : List Nat} {rs : Rws} {gd : List Nat} {Q : VK}
theorem own_in {w z : List Nat} (hp : U.Rd C Z H p al rs gd) (ha : AlOk al) (hw : WF al.length rs) (hz : Word al w z) (hl : z.length ≤ 40) (k : ∀ H', Same H H' → Q (.bl (decide (U.run rs 0 w ∈ gd))) H') : rOwnIn C (sp_Readerd_containsd C) E (.str (SX.S z)) (.ref p) H Q := by
  obtain ⟨_, dx, pm, pg, a1, _, _⟩ := id hp
  exact ⟨p, dx, _, rfl, a1, Z, p, al, rs, gd, z, w, rfl, hp, ha, hw, hz, hl, fun H' s => ⟨_, rfl, k H' s⟩⟩
end
def sp_law_asked (C : Addr) : Sp := fun vs H Q _ => ∃ (al : List Nat) (pP pR pK pW p0 p1 r0 r1 : Addr) (A0 : Rws) (g0 : List Nat) (A1 : Rws) (g1 : List Nat) (wd : Str) (i j : Nat) (z1 w1 z2 w2 : List Nat), vs = [.str (SX.S al), .ref pP, .ref pR, .ref pK, .ref pW] ∧
  (H pP = some (.lst [.ref p0, .ref p1]) ∧ H pR = some (.lst [.ref r0, .ref r1]) ∧ H pK = some (.tup [.str wd, .int (i : Int), .int (j : Int)]) ∧ H pW = some (.lst [.str (SX.S z1), .str (SX.S z2)])) ∧
  (Mach (fun _ => False) H p0 A0 g0 ∧ Rd C (fun _ => False) H r0 al A0 g0 ∧ WF al.length A0 ∧ GOK A0.length g0) ∧ (Mach (fun _ => False) H p1 A1 g1 ∧ Rd C (fun _ => False) H r1 al A1 g1 ∧ WF al.length A1 ∧ GOK A1.length g1) ∧ AlOk al ∧ i < 2 ∧ j < 2 ∧ wd ∈ opsW ∧
  (Word al w1 z1 ∧ z1.length ≤ 40 ∧ Word al w2 z2 ∧ z2.length ≤ 40) ∧ ∀ H', Same H H' → Q (.bl true) H'
section
variable {P : Program} {w : World} {K : PySem.W.Frag} {mg : Str → Option Value} {base : Heap} {C : Addr} {r : Er}
set_option maxHeartbeats 4000000 in
theorem ok_law_asked {f : Addr} {fd : FuncData} (F : Def K mg "_law_asked" s_law_asked f fd) (T : Txt K mg C r) (b : Binds K fd ["alphabet", "plains", "readers", "ask", "words"] []) (c_law_joint : Cal P w K mg base 2 "_law_joint" sp_law_joint []) (c_law_done : Cal P w K mg base 9 "_law_done" (sp_law_done C r) []) (c_law_holds : Cal P w K mg base 4 "_law_holds" (sp_law_holds C) []) (c_law_due : Cal P w K mg base 1 "_law_due" sp_law_due []) (c_law_within : Cal P w K mg base 2 "_law_within" sp_law_within []) (o_in : OwnCal P w K mg base 3 C "__contains__" (sp_Readerd_containsd C)) (t_room : Met P w K mg base 3 C "room" (sp_Reader_room C) []) : Cal P w K mg base 10 "_law_asked" (sp_law_asked C) [] := by
  refine cal0 F b .nil sc_law_asked (fun vs H Q E h => ?_) (fun cdv A outer s H vs Q E hr h => ?_)
  · obtain ⟨_, _, _, _, _, _, _, _, _, _, _, _, _, _, _, _, _, _, _, _, rfl, _⟩ := h
    rfl
  · obtain ⟨al, pP, pR, pK, pW, p0, p1, r0, r1, A0, g0, A1, g1, wd, i, j, z1, w1, z2, w2, rfl, ⟨hP, hR, hK, hWs⟩, ⟨hm0, hr0, hw0, hg0⟩, ⟨hm1, hr1, hw1, hg1⟩, ha, hi, hj, hwd, ⟨hz1, hl1, hz2, hl2⟩, k⟩ := h
    refine ⟨_, (pss_cons (ps_asg (pv 3) (pg_tup rfl (pgs_cons (pg_name (i := 5) sc_law_asked.nd rfl (by first | exact Or.inl rfl | exact Or.inr rfl)) (pgs_cons (pg_name (i := 6) sc_law_asked.nd rfl (by first | exact Or.inl rfl | exact Or.inr rfl)) (pgs_cons (pg_name (i := 7) sc_law_asked.nd rfl (by first | exact Or.inl rfl | exact Or.inr rfl)) pgs_nil)))))
        (pss_cons (ps_set (i := 8) sc_law_asked.nd rfl (by first | exact Or.inl rfl | exact Or.inr rfl) (pe_c c_law_joint hr (by decide) rfl (pa_cons (pe_ix (ixK K rfl) (pv 1) (pv 6) (fun _ _ => rfl)) (pa_cons (pe_ix (ixK K rfl) (pv 1) (pv 7) (fun _ _ => rfl)) (pa_cons (pv 5) pa_nil)))))
        (pss_cons (ps_set (i := 9) sc_law_asked.nd rfl (by first | exact Or.inl rfl | exact Or.inr rfl) (pe_c c_law_done hr (by decide) rfl (pa_cons (pv 5) (pa_cons (pe_ix (ixK K rfl) (pv 2) (pv 6) (fun _ _ => rfl)) (pa_cons (pe_ix (ixK K rfl) (pv 2) (pv 7) (fun _ _ => rfl)) pa_nil)))))
        (pss_cons (ps_if (pt_not (pt_val (pe_c c_law_holds hr (by decide) rfl (pa_cons (pv 0) (pa_cons (pv 8) (pa_cons (pv 9) pa_nil)))))) (pss_one (ps_ret pe_bl)) pss_nil)
        (pss_cons (ps_if (pt_val (pe_callB (isiK K rfl) (by rfl) T.b_isinstance (by decide +kernel) (pa_cons (pv 9) (pa_cons (pe_bltn (v := .ty "list") (u := .type "list") (by rfl) T.b_list (by decide +kernel) rfl) pa_nil)))) (pss_one (ps_ret pe_bl)) pss_nil)
        (pss_cons (ps_for PassesOwn.never rfl (seqK K rfl (pv 4)) (pg_name (i := 10) sc_law_asked.nd rfl (by first | exact Or.inl rfl | exact Or.inr rfl))
        (pss_cons (ps_set (i := 11) sc_law_asked.nd rfl (by first | exact Or.inl rfl | exact Or.inr rfl) (pe_c c_law_due hr (by decide) rfl (pa_cons (pv 5) (pa_cons (pe_c c_law_within hr (by decide) rfl (pa_cons (pv 0) (pa_cons (pe_ix (ixK K rfl) (pv 1) (pv 6) (fun _ _ => rfl)) (pa_cons (pv 10) pa_nil)))) (pa_cons (pe_c c_law_within hr (by decide) rfl (pa_cons (pv 0) (pa_cons (pe_ix (ixK K rfl) (pv 1) (pv 7) (fun _ _ => rfl)) (pa_cons (pv 10) pa_nil)))) pa_nil)))))
        (pss_one (ps_if (PW.pt (pw_or (pt_cmpR op_ne (pe_cmpR (inK K rfl) (pe_mt t_room hr (by decide) (pv 9) (pa_cons (pv 10) pa_nil)) (fldK K rfl (pv 9) rfl) rfl) (pv 11) (nomark _)) (pw_or1 (pt_cmpR op_ne (pe_cmpR (ownIn o_in hr (by decide)) (pv 10) (pv 9) rfl) (pv 11) (nomark _))))) (pss_one (ps_ret pe_bl)) pss_nil))))
        (pss_one (ps_ret pe_bl)))))))), ?_⟩
    have h1 := ha.pos
    obtain ⟨W, hop, hW0⟩ := ops_W hwd
    have at2 : ∀ n : Nat, n < 2 → ∃ (pa ra : Addr) (A : Rws) (g : List Nat), atI ([.ref p0, .ref p1] : List V) (n : Int) = some (.ref pa) ∧ atI ([.ref r0, .ref r1] : List V) (n : Int) = some (.ref ra) ∧ Mach (fun _ => False) H pa A g ∧ Rd C (fun _ => False) H ra al A g ∧ WF al.length A ∧ GOK A.length g := fun n hn => by
      have : n = 0 ∨ n = 1 := by omega
      rcases this with rfl | rfl
      · exact ⟨p0, r0, A0, g0, rfl, rfl, hm0, hr0, hw0, hg0⟩
      · exact ⟨p1, r1, A1, g1, rfl, rfl, hm1, hr1, hw1, hg1⟩
    obtain ⟨pa, ra, A, gA, ia, ja, hma, hra, hwA, hgA⟩ := at2 i hi
    obtain ⟨pb, rb, B, gB, ib, jb, hmb, hrb, hwB, hgB⟩ := at2 j hj
    have isl : ∀ (t : Addr) (H1 : Hp) (Z : AS) A g (G : VK), Rd C Z H1 t al A g → G (.bl false) H1 → rIsi K [.ref t, .ty "list"] H1 G := fun t H1 Z A g G hR hG => by
      obtain ⟨_, dx, pm, pg, ht1, _⟩ := id hR
      exact ⟨.ref t, .ty "list", .ref C, .type "list", false, rfl, .ty _, .base (.ins ht1 T.ins.cl T.ins.ha T.ins.hn T.ins.htk T.ins.hm), T.kl, hG⟩
    walk_at "go"
    refine i_ixL hP ia ?_
    walk_at "go"
    refine i_ixL hP ib ?_
    walk_at "go"
    refine ⟨fun _ => False, pa, pb, A, gA, B, gB, al.length, wd, rfl, hma, hmb, hwA, hwB, h1, hwd, fun kk t H1 d s1 ht hT => ?_⟩
    walk_at "go"
    refine i_ixL (s1 _ _ hR) ja ?_
    walk_at "go"
    refine i_ixL (s1 _ _ hR) jb ?_
    walk_at "go"
    refine done_go d (hra.same s1) (hrb.same s1) ha hwA hwB hop hW0 fun u H2 s2 hu => ?_
    have wJ := j_wf hwA hwB d
    have gJ : GOK (gRows (jn al.length A B) (jAt al.length A B kk)).length (jG al.length A B wd gA gB kk) := by
      rw [gRows_len]
      exact gGood_ok _ _ _
    walk_at "go"
    refine ⟨fun _ => False, al, t, u, _, _, (), rfl, (hT.weak fun _ z => z.elim).same s2, ha, wJ, gJ, hu, fun H3 s3 => ?_⟩
    have s13 := s1.trans (s2.trans s3)
    walk_at "go"
    rcases hu with ⟨Z, D, gD, hRD, hwD, hgD, hLD, hCD⟩ | ⟨hl, _⟩
    · refine isl u H3 _ _ _ _ (hRD.same s3) ?_
      walk_at "go"
      have hR3 : Rd C (fun _ => False) H3 u al D gD := (hRD.same s3).weak fun _ z => z.elim
      have hWs3 := s13 _ _ hWs
      have hP3 := s13 _ _ hP
      have hma3 := hma.same s13
      have hmb3 := hmb.same s13
      have hwords : ∀ (n : Nat) (v : V), ([V.str (SX.S z1), V.str (SX.S z2)] : List V)[n]? = some v → ∃ z w, v = .str (SX.S z) ∧ Word al w z ∧ z.length ≤ 40 := fun n v h => by
        have hn := (List.getElem?_eq_some_iff.mp h).1
        have hn : n = 0 ∨ n = 1 := by simp at hn; omega
        rcases hn with rfl | rfl
        · cases h; exact ⟨z1, w1, rfl, hz1, hl1⟩
        · cases h; exact ⟨z2, w2, rfl, hz2, hl2⟩
      refine seq_for (t := false) hWs3 (fun n σ H' => ∃ x10 x11, σ = [some (.str (SX.S al)), some (.ref pP), some (.ref pR), some (.ref pK), some (.ref pW), some (.str wd), some (.int (i : Int)), some (.int (j : Int)), some (.ref t), some (.ref u), x10, x11] ∧ Same H3 H') ⟨_, _, rfl, .refl _⟩ (fun n σ H' _ ⟨_, _, _, s⟩ => s _ _ hWs3) (fun n v σ H' hv hq => ?_) (fun σ H' hq => ?_)
      · obtain ⟨x10, x11, rfl, s4⟩ := hq
        obtain ⟨z, w, rfl, hz, hlz⟩ := hwords n v hv
        walk_at "go"
        refine i_ixL (s4 _ _ hP3) ia ?_
        walk_at "go"
        refine ⟨fun _ => False, al, pa, A, gA, w, z, rfl, hma3.same s4, ha, hwA, hz, ?_⟩
        walk_at "go"
        refine i_ixL (s4 _ _ hP3) ib ?_
        walk_at "go"
        refine ⟨fun _ => False, al, pb, B, gB, w, z, rfl, hmb3.same s4, ha, hwB, hz, ?_⟩
        walk_at "go"
        refine ⟨wd, _, _, rfl, hwd, ?_⟩
        walk_at "go"
        have hR4 := hR3.same s4
        obtain ⟨_, dx, pm, pg, hu4, _, tg⟩ := id hR4
        have hb : decide (run D 0 w ∈ gD) = dueB wd (decide (run A 0 w ∈ gA)) (decide (run B 0 w ∈ gB)) := by
          have e1 := hLD w hz.1
          rw [jG, jLang d _ hz.1] at e1
          rw [← decide_eq_decide.mpr e1]
          show decide (dueB wd (decide (run A 0 w ∈ gA)) (decide (run B 0 w ∈ gB)) = true) = _
          cases dueB wd (decide (run A 0 w ∈ gA)) (decide (run B 0 w ∈ gB)) <;> rfl
        refine ⟨u, dx, flds al pm pg, rfl, hu4, by rfl, ?_⟩
        walk_at "go"
        refine ⟨fun _ => False, u, al, D, gD, z, w, rfl, hR4, ha, hwD, hz, hlz, fun H5 s5 => ?_⟩
        walk_at "go"
        refine i_fldR (s5 _ _ hu4) T.cl T.nG (flds_go al pm pg) ?_
        refine i_inI (t := true) (s5 _ _ tg.2) ?_
        walk_at "go"
        refine ite_ndf hb ?_
        walk_at "go"
        refine own_in (hR4.same s5) ha hwD hz hlz fun H6 s6 => ?_
        walk_at "go"
        refine ite_ndf hb ?_
        walk_at "go"
        exact ⟨_, _, rfl, s4.trans (s5.trans s6)⟩
      · obtain ⟨x10, x11, rfl, s4⟩ := hq
        walk_at "go"
        exact k _ (s13.trans s4)
    · refine ⟨.ref u, .ty "list", .type "list", .type "list", true, rfl, .ty _, .base (.lst (s3 _ _ hl)), kit_ty (by decide +kernel), ?_⟩
      walk_at "go"
      exact k _ s13
end
abbrev s_law : Stmt := top 63
theorem sc_law : FnScope ["script", "source", "second", "third", "alphabet", "plains", "readers", "words", "asks", "k", "ask", "plain", "row"] ["script"] (fnScope s_law) := ⟨rfl, rfl, rfl, by decide +kernel, rfl, by decide +kernel, by decide +kernel⟩
theorem paired2 {α β : Type} {F : α → β → Prop} {xs : List α} {a b : β} (h : Paired F xs [a, b]) : ∃ x y, xs = [x, y] ∧ F x a ∧ F y b := by
  cases h with
  | cons h1 t => cases t with
    | cons h2 t => cases t with
      | nil => exact ⟨_, _, rfl, h1, h2⟩
def askV (x : Str × Int × Int) : HO := .tup [.str x.1, .int x.2.1, .int x.2.2]
def tAsk : List (Str × Int × Int) → TA
  | [] => tNil
  | x :: r => tCons (tTup (tCons (tC (.str x.1)) (tCons (tC (.int x.2.1)) (tCons (tC (.int x.2.2)) tNil)))) (tAsk r)
theorem tAsk_read {σ : L2.St} : ∀ (L : List (Str × Int × Int)) (H : Hp) (Q : List V → Hp → Prop), (∀ as H', Same H H' → Paired (fun a x => H a = none ∧ H' a = some (askV x)) as L → Q (as.map V.ref) H') → tAsk L σ H Q
  | [], H, Q, q => q [] H (Same.refl H) .nil
  | x :: r, H, Q, q => (show tCons (tTup (tCons (tC (.str x.1)) (tCons (tC (.int x.2.1)) (tCons (tC (.int x.2.2)) tNil)))) (tAsk r) σ H Q from ⟨sz3, fun p hp =>
      tAsk_read r _ _ fun as H' s h => q (p :: as) H' ((same_laid hp).trans s) (.cons ⟨hp, s _ _ upd_same⟩ (Paired.mapP h fun a xs z => ⟨same_free (same_laid hp) z.1, z.2⟩))⟩)
def AskOk (x : Str × Int × Int) : Prop := x.1 ∈ opsW ∧ (x.2.1 = 0 ∨ x.2.1 = 1) ∧ (x.2.2 = 0 ∨ x.2.2 = 1)
def asks11 : List (Str × Int × Int) := [("and", 0, 1), ("or", 0, 1), ("less", 0, 1), ("not", 0, 0), ("and", 1, 0), ("or", 1, 0), ("less", 1, 0), ("not", 1, 1), ("and", 0, 0), ("or", 1, 1), ("less", 0, 0)]
theorem asks11_ok : ∀ x ∈ asks11, AskOk x := by
  intro x hx
  simp only [asks11, List.mem_cons, List.not_mem_nil, or_false] at hx
  rcases hx with rfl | rfl | rfl | rfl | rfl | rfl | rfl | rfl | rfl | rfl | rfl <;> exact ⟨by simp [opsW], by simp, by simp⟩
/-- the askings that lie in a list -/
def Asks (S : AS) (H : Hp) (K : Addr) : Prop := ¬ S K ∧ ∃ (as : List Addr) (L : List (Str × Int × Int)), H K = some (.lst (as.map V.ref)) ∧ Paired (fun a x => H a = some (askV x)) as L ∧ (∀ x ∈ L, AskOk x) ∧ 0 < L.length ∧ L.length ≤ 11
theorem Asks.ev {S : AS} {H H' : Hp} {K : Addr} (hS : Srcs S H) (h : Asks S H K) (e : Ev S H H') : Asks S H' K :=
  let ⟨n, as, L, h1, h2, h3⟩ := h
  ⟨n, as, L, e.at n h1, Paired.mapP h2 fun a x z => e.tup hS z, h3⟩
theorem Asks.same {S : AS} {H H' : Hp} {K : Addr} (h : Asks S H K) (s : Same H H') : Asks S H' K :=
  let ⟨n, as, L, h1, h2, h3⟩ := h
  ⟨n, as, L, s _ _ h1, Paired.mapP h2 fun a x z => s _ _ z, h3⟩
theorem asks_at {F : Addr → Str × Int × Int → Prop} {as : List Addr} {L : List (Str × Int × Int)} (h : Paired F as L) {d : Nat} (hd : d < L.length) : ∃ a x, as[d]? = some a ∧ x ∈ L ∧ F a x := by
  obtain ⟨xs, hx⟩ : ∃ xs, L[d]? = some xs := ⟨_, List.getElem?_eq_getElem hd⟩
  obtain ⟨a, ha, hr⟩ := Paired.at1 h hx
  exact ⟨a, xs, ha, List.mem_of_getElem? hx, hr⟩
def sp_law (K : PySem.W.Frag) : Sp := fun vs H Q _ => ∃ (a : Addr) (ns : List Int), vs = [.ref a] ∧ SqL K H a (ns.map V.int) ∧ ns.length ≤ 63 ∧ (∀ n ∈ ns, n.natAbs < 2 ^ 1048576) ∧ ∀ H', Q (.bl true) H'
section
variable {P : Program} {w : World} {K : PySem.W.Frag} {mg : Str → Option Value} {base : Heap} {C : Addr} {r : Er}
set_option maxHeartbeats 4000000 in
theorem ok_law {f : Addr} {fd : FuncData} (F : C8.Fun K "law" "law" s_law f fd) (T : Txt K mg C r) (c_law_source : Cal P w K mg base 1 "_law_source" (sp_law_source K) []) (c_law_alphabet : Cal P w K mg base 2 "_law_alphabet" sp_law_alphabet []) (c_law_both : Cal P w K mg base 4 "_law_both" sp_law_both []) (c_law_word : Cal P w K mg base 2 "_law_word" sp_law_word []) (c_law_pick : Cal P w K mg base 1 "_law_pick" sp_law_pick []) (c_law_asked : Cal P w K mg base 10 "_law_asked" (sp_law_asked C) []) (c_law_turned : Cal P w K mg base 10 "_law_turned" (sp_law_turned C) []) (c_law_strange : Cal P w K mg base 10 "_law_strange" (sp_law_strange C) []) (c_law_stays : Cal P w K mg base 3 "_law_stays" (sp_law_stays C) []) (m_Reader : Mak P w K mg base 3 "Reader" C (sp_Readerd_initd C) []) : FnOk P w K mg base C8.CX0 11 f fd ["script"] (sp_law K) := by
  refine fn0 F sc_law (fun vs H Q E h => ?_) (fun cdv A outer s H vs Q E hr h => ?_)
  · obtain ⟨_, _, rfl, _⟩ := h
    rfl
  · obtain ⟨a, ns, rfl, ha, hl, hb, k⟩ := h
    refine ⟨_, (pss_cons (ps_set (i := 1) sc_law.nd rfl (by first | exact Or.inl rfl | exact Or.inr rfl) (pe_c c_law_source hr (by decide) rfl (pa_cons (pv 0) (pa_cons pe_int pa_nil))))
        (pss_cons (ps_set (i := 2) sc_law.nd rfl (by first | exact Or.inl rfl | exact Or.inr rfl) (pe_c c_law_source hr (by decide) rfl (pa_cons (pv 0) (pa_cons pe_int pa_nil))))
        (pss_cons (ps_set (i := 3) sc_law.nd rfl (by first | exact Or.inl rfl | exact Or.inr rfl) (pe_c c_law_source hr (by decide) rfl (pa_cons (pv 0) (pa_cons pe_int pa_nil))))
        (pss_cons (ps_set (i := 4) sc_law.nd rfl (by first | exact Or.inl rfl | exact Or.inr rfl) (pe_c c_law_alphabet hr (by decide) rfl (pa_cons (pv 1) pa_nil)))
        (pss_cons (ps_set (i := 5) sc_law.nd rfl (by first | exact Or.inl rfl | exact Or.inr rfl) (pe_c c_law_both hr (by decide) rfl (pa_cons (pv 1) (pa_cons (pv 2) (pa_cons (pv 4) pa_nil)))))
        (C8.pss_cut (ps_setLc (i := 6) (own := [("plain", 11)]) rfl sc_law.nd rfl rfl (sw_true rfl rfl rfl (by decide +kernel)) (seqK K rfl (pv 5)) (blkOk_by (by kernel_rfl)) (fun _ _ _ _ _ => (pg_name (i := 11) sc_law.nd rfl (by first | exact Or.inl rfl | exact Or.inr rfl))) (fun _ _ _ _ _ => pts_nil) (fun _ _ _ _ _ => (pe_mk m_Reader hr (by decide) rfl (pa_cons (pv 4) (pa_cons (pe_lc (own := [("row", 12)]) rfl sc_law.nd (seqK K rfl (pe_ix (ixK K rfl) (pv 11) pe_int (fun _ _ => rfl))) (blkOk_by (by kernel_rfl)) (fun _ _ _ _ _ => (pg_name (i := 12) sc_law.nd rfl (by first | exact Or.inl rfl | exact Or.inr rfl))) (fun _ _ _ _ _ => pts_nil) (fun _ _ _ _ _ => (pe_callTy (listK K rfl) (by rfl) T.b_list (by decide +kernel) (pa_cons (pv 12) pa_nil)))) (pa_cons (pe_callTy (listK K rfl) (by rfl) T.b_list (by decide +kernel) (pa_cons (pe_ix (ixK K rfl) (pv 11) pe_int (fun _ _ => rfl)) pa_nil)) pa_nil))))))
        (pss_cons (ps_set (i := 7) sc_law.nd rfl (by first | exact Or.inl rfl | exact Or.inr rfl) (pe_lst (pa_cons (pe_c c_law_word hr (by decide) rfl (pa_cons (pv 3) (pa_cons (pv 4) (pa_cons pe_int pa_nil)))) (pa_cons (pe_c c_law_word hr (by decide) rfl (pa_cons (pv 3) (pa_cons (pv 4) (pa_cons pe_int pa_nil)))) pa_nil))))
        (pss_cons (ps_set (i := 8) sc_law.nd rfl (by first | exact Or.inl rfl | exact Or.inr rfl) (pe_lst (pa_cons (pe_tup (pa_cons pe_str (pa_cons pe_int (pa_cons pe_int pa_nil)))) (pa_cons (pe_tup (pa_cons pe_str (pa_cons pe_int (pa_cons pe_int pa_nil)))) (pa_cons (pe_tup (pa_cons pe_str (pa_cons pe_int (pa_cons pe_int pa_nil)))) (pa_cons (pe_tup (pa_cons pe_str (pa_cons pe_int (pa_cons pe_int pa_nil)))) (pa_cons (pe_tup (pa_cons pe_str (pa_cons pe_int (pa_cons pe_int pa_nil)))) (pa_cons (pe_tup (pa_cons pe_str (pa_cons pe_int (pa_cons pe_int pa_nil)))) (pa_cons (pe_tup (pa_cons pe_str (pa_cons pe_int (pa_cons pe_int pa_nil)))) (pa_cons (pe_tup (pa_cons pe_str (pa_cons pe_int (pa_cons pe_int pa_nil)))) (pa_cons (pe_tup (pa_cons pe_str (pa_cons pe_int (pa_cons pe_int pa_nil)))) (pa_cons (pe_tup (pa_cons pe_str (pa_cons pe_int (pa_cons pe_int pa_nil)))) (pa_cons (pe_tup (pa_cons pe_str (pa_cons pe_int (pa_cons pe_int pa_nil)))) pa_nil)))))))))))))
        (C8.pss_cut (ps_if (pt_cmpR op_gt (pe_op op_mul (pe_callB (lenK K rfl) (by rfl) T.b_len (by decide +kernel) (pa_cons (pe_ix (ixK K rfl) (pe_ix (ixK K rfl) (pv 5) pe_int (fun _ _ => rfl)) pe_int (fun _ _ => rfl)) pa_nil)) (pe_callB (lenK K rfl) (by rfl) T.b_len (by decide +kernel) (pa_cons (pe_ix (ixK K rfl) (pe_ix (ixK K rfl) (pv 5) pe_int (fun _ _ => rfl)) pe_int (fun _ _ => rfl)) pa_nil))) pe_int (nomark _)) (pss_cons (ps_set (i := 9) sc_law.nd rfl (by first | exact Or.inl rfl | exact Or.inr rfl) (pe_c c_law_pick hr (by decide) rfl (pa_cons (pv 3) (pa_cons pe_int pa_nil))))
        (pss_one (ps_set (i := 8) sc_law.nd rfl (by first | exact Or.inl rfl | exact Or.inr rfl) (pe_lst (pa_cons (pe_ix (ixK K rfl) (pv 8) (pv 9) (fun _ _ => rfl)) (pa_cons (pe_ix (ixK K rfl) (pv 8) (pe_op op_add pe_int (pv 9)) (fun _ _ => rfl)) (pa_cons (pe_tup (pa_cons pe_str (pa_cons (pe_op op_fdiv (pv 9) pe_int) (pa_cons (pe_op op_fdiv (pv 9) pe_int) pa_nil)))) pa_nil))))))) pss_nil)
        (pss_cons (ps_for PassesOwn.never rfl (seqK K rfl (pv 8)) (pg_name (i := 10) sc_law.nd rfl (by first | exact Or.inl rfl | exact Or.inr rfl))
        (pss_one (ps_if (pt_not (pt_val (pe_c c_law_asked hr (by decide) rfl (pa_cons (pv 4) (pa_cons (pv 5) (pa_cons (pv 6) (pa_cons (pv 10) (pa_cons (pv 7) pa_nil)))))))) (pss_one (ps_ret pe_bl)) pss_nil)))
        (pss_cons (ps_for PassesOwn.never rfl (pi_range1 (by rfl) T.b_range (pa_cons pe_int pa_nil)) (pg_name (i := 9) sc_law.nd rfl (by first | exact Or.inl rfl | exact Or.inr rfl))
        (pss_one (ps_if (pt_not (pt_val (pe_c c_law_turned hr (by decide) rfl (pa_cons (pv 4) (pa_cons (pe_ix (ixK K rfl) (pv 5) (pv 9) (fun _ _ => rfl)) (pa_cons (pe_ix (ixK K rfl) (pv 6) (pv 9) (fun _ _ => rfl)) pa_nil)))))) (pss_one (ps_ret pe_bl)) pss_nil)))
        (pss_cons (ps_if (pt_not (pt_val (pe_c c_law_strange hr (by decide) rfl (pa_cons (pv 4) (pa_cons (pv 6) (pa_cons (pv 3) pa_nil)))))) (pss_one (ps_ret pe_bl)) pss_nil)
        (pss_cons (ps_if (PW.pt (pw_or (pt_not (pt_val (pe_c c_law_stays hr (by decide) rfl (pa_cons (pv 4) (pa_cons (pe_ix (ixK K rfl) (pv 5) pe_int (fun _ _ => rfl)) (pa_cons (pe_ix (ixK K rfl) (pv 6) pe_int (fun _ _ => rfl)) pa_nil)))))) (pw_or1 (pt_not (pt_val (pe_c c_law_stays hr (by decide) rfl (pa_cons (pv 4) (pa_cons (pe_ix (ixK K rfl) (pv 5) pe_int (fun _ _ => rfl)) (pa_cons (pe_ix (ixK K rfl) (pv 6) pe_int (fun _ _ => rfl)) pa_nil))))))))) (pss_one (ps_ret pe_bl)) pss_nil)
        (pss_one (ps_ret (pe_c c_law_asked hr (by decide) rfl (pa_cons (pv 4) (pa_cons (pv 5) (pa_cons (pv 6) (pa_cons (pe_ix (ixK K rfl) (pv 8) (pe_c c_law_pick hr (by decide) rfl (pa_cons (pv 3) (pa_cons (pe_callB (lenK K rfl) (by rfl) T.b_len (by decide +kernel) (pa_cons (pv 8) pa_nil)) pa_nil))) (fun _ _ => rfl)) (pa_cons (pv 7) pa_nil))))))))))))))))))))), ?_⟩
    walk_at "go"
    refine ⟨a, ns, 0, rfl, ha, hl, by decide, hb, fun s1 x1 y1 z1 H1 sm1 h10 h11 => ?_⟩
    walk_at "go"
    refine ⟨a, ns, 1, rfl, SqL.same ha sm1, hl, by decide, hb, fun s2 x2 y2 z2 H2 sm2 h20 h21 => ?_⟩
    walk_at "go"
    refine ⟨a, ns, 2, rfl, SqL.same (SqL.same ha sm1) sm2, hl, by decide, hb, fun s3 x3 y3 z3 H3 sm3 h30 h31 => ?_⟩
    walk_at "go"
    generalize hSdef : (fun b : Addr => b = s1 ∨ b = s2 ∨ b = s3) = S
    have iS1 : S s1 := by rw [← hSdef]; exact .inl rfl
    have iS2 : S s2 := by rw [← hSdef]; exact .inr (.inl rfl)
    have iS3 : S s3 := by rw [← hSdef]; exact .inr (.inr rfl)
    have hS3 : Srcs S H3 := fun b hb => by
      rw [← hSdef] at hb
      rcases hb with e | e | e
      · rw [e]; exact ⟨x1, y1, z1, sm3 _ _ (sm2 _ _ h11)⟩
      · rw [e]; exact ⟨x2, y2, z2, sm3 _ _ h21⟩
      · rw [e]; exact ⟨x3, y3, z3, h31⟩
    refine ⟨S, s1, rfl, iS1, hS3, fun al H4 hmen hal e4 => ?_⟩
    walk_at "go"
    have hal1 := hal.pos
    have hal3 := hal.le
    have hla : (SX.S al).length = al.length := SX.S_len al
    refine ⟨S, s1, s2, al, rfl, iS1, iS2, e4.src, hal, fun PL p0 p1 A0 g0 A1 g1 H9 e9 hPS hPL9 hm0 hm1 => ?_⟩
    walk_at "go"
    have hS9 := e9.src
    have hPL9 : H9 PL = some (.lst ([p0, p1].map V.ref)) := hPL9
    have hP9 : Paired (fun a (x : Rws × List Nat) => Mach S H9 a x.1 x.2) [p0, p1] [(A0, g0), (A1, g1)] := .cons hm0.1 (.cons hm1.1 .nil)
    have hok : ∀ x ∈ [(A0, g0), (A1, g1)], WF al.length x.1 ∧ GOK x.1.length x.2 := fun x hx => by
      rcases List.mem_cons.mp hx with e | hx
      · rw [e]; exact hm0.2
      · rw [List.mem_singleton.mp hx]; exact hm1.2
    have hpl3 : [(A0, g0), (A1, g1)].length = 2 := rfl
    show C8.tCut _ _ _ _ _
    refine i_cut (fun σ H' => ∃ (RL : Addr) (rds : List Addr), σ = [some (.ref a), some (.ref s1), some (.ref s2), some (.ref s3), some (.str (SX.S al)), some (.ref PL), some (.ref RL), none, none, none, none, none, none] ∧ Ev S H9 H' ∧ H' RL = some (.lst (rds.map V.ref)) ∧ ¬ S RL ∧ Paired (fun a (x : Rws × List Nat) => Rd C S H' a al x.1 x.2) rds [(A0, g0), (A1, g1)]) ?_ (fun σ H' hq => ?_)
    · generalize hpls : [(A0, g0), (A1, g1)] = pls at *
      generalize hpad : [p0, p1] = pad at *
      walk_at "go"
      refine seq_lc (t := false) hPL9 (fun D hD => ⟨fun q H' => Ev S H9 H' ∧ ∃ rds, H' D = some (.lst (rds.map V.ref)) ∧ Paired (fun a (x : Rws × List Nat) => Rd C S H' a al x.1 x.2) rds (pls.take q), ⟨.laid hS9 hD, [], upd_same, by rw [List.take_zero]; exact .nil⟩, fun q H' _ ⟨e, _⟩ => e.at hPS hPL9, fun q v H' hv hq => ?_, fun H' hq => ?_⟩)
      · obtain ⟨e10, rds, hD10, hrds⟩ := hq
        obtain ⟨pa, hpa, rfl⟩ := at_map hv
        obtain ⟨⟨A, g⟩, hx, hma⟩ := Paired.at0 hP9 hpa
        obtain ⟨hwA, hgA⟩ := hok _ (List.mem_of_getElem? hx)
        have hS10 := e10.src
        have hq3 : q < 2 := by
          have := (List.getElem?_eq_some_iff.mp hx).1
          omega
        have hrl : rds.length ≤ 2 := by
          rw [hrds.length, List.length_take]
          omega
        obtain ⟨hpS, pm, pg, hp1, hp2, hp3⟩ := hma.ev e10
        obtain ⟨hmS, tm, as, hm1', hmP⟩ := id hp2
        obtain ⟨hgS, tg, hg1'⟩ := id hp3
        have hDS : ¬ S D := hS9.notin hD
        have hleA := hwA.le
        walk_at "go"
        refine seq_lc hm1' (fun E hE => ⟨fun j H3 => Same H' H3 ∧ ∃ bs, H3 E = some (.lst (bs.map V.ref)) ∧ Paired (fun a r => H' a = none ∧ a ≠ E ∧ H3 a = some (.lst (r.map vn))) bs (A.take j), ⟨same_laid hE, [], upd_same, by rw [List.take_zero]; exact .nil⟩, fun j H3 _ ⟨e, _⟩ => e _ _ hm1', fun j v H3 hvj hq => ?_, fun H3 hq => ?_⟩)
        · obtain ⟨s3', bs, hE3, hbs⟩ := hq
          obtain ⟨b, hvb, rfl⟩ := at_map hvj
          obtain ⟨rw', hrw, hia1, ti, hia2⟩ := Paired.at0 hmP hvb
          have hj := (List.getElem?_eq_some_iff.mp hrw).1
          walk_at "go"
          refine i_listOf (s3' _ _ hia2) (fun l hl => ?_)
          have hlE : l ≠ E := (ne_of_none hE3 hl).symm
          refine ⟨bs.map V.ref, by rw [upd_ne hlE.symm]; exact hE3, szlt (by rw [List.length_map, hbs.length, List.length_take]; omega), Same.put (s3'.trans (same_laid hl)) hE, bs ++ [l], by rw [upd_same, List.map_append]; rfl, ?_⟩
          rw [take_at hrw]
          refine U.Paired.snoc (Paired.mapP hbs fun b r z => ⟨z.1, z.2.1, ?_⟩) ⟨same_free s3' hl, hlE, by rw [upd_ne hlE, upd_same]⟩
          rw [upd_ne z.2.1, upd_ne (ne_of_none z.2.2 hl)]
          exact z.2.2
        · obtain ⟨s3', bs, hE3, hbs⟩ := hq
          rw [show (List.map V.ref as).length = A.length by rw [List.length_map, hmP.length], List.take_length] at hbs
          have hES : ¬ S E := hS10.notin hE
          walk_at "go"
          refine i_ixT (s3' _ _ hp1) (i := 1) (v := .ref pg) rfl ?_
          walk_at "go"
          refine i_listOf (s3' _ _ hg1') (fun G hG => ?_)
          walk_at "go"
          intro x dx hx0 hdx hne
          have s4 : Same H3 (upd H3 G (.lst (g.map vn))) := same_laid hG
          have s5 : Same (upd H3 G (.lst (g.map vn))) (upd (upd (upd H3 G (.lst (g.map vn))) dx (.own x)) x (.ins C dx [])) := (same_laid hdx).trans (same_laid (by rw [upd_ne hne.symm]; exact hx0))
          have s05 := (s3'.trans s4).trans s5
          have e11 : Ev S H' (upd (upd (upd H3 G (.lst (g.map vn))) dx (.own x)) x (.ins C dx [])) := .of_same hS10 s05
          have hxH : H' x = none := same_free (s3'.trans s4) hx0
          have hxS : ¬ S x := hS10.notin hxH
          have hGS : ¬ S G := hS10.notin (same_free s3' hG)
          refine ⟨S, x, dx, al, E, A, G, g, rfl, e11.src.to, upd_same, hal, ⟨hES, false, bs, (s4.trans s5) _ _ hE3, Paired.mapP hbs fun b r z => ⟨hS10.notin z.1, false, (s4.trans s5) _ _ z.2.2⟩⟩, ⟨hGS, false, s5 _ _ upd_same⟩, hwA, hgA, fun H6 qm qg kk h1 h2 h3 => ⟨rfl, ?_⟩⟩
          have s6 := made_same hx0 hdx kk
          have s06 := (s3'.trans s4).trans s6
          have hD6 := s06 _ _ hD10
          have hn1 : ∀ vs, H6 D ≠ some (.tup vs) := by
            intro vs
            rw [hD6]
            intro z
            cases z
          have hn2 : ∀ C dx fs, H6 D ≠ some (.ins C dx fs) := by
            intro C dx fs
            rw [hD6]
            intro z
            cases z
          refine ⟨_, hD6, szlt (by rw [List.length_map]; omega), Ev.put hS9 (e10.trans (.of_same hS10 s06)) hD, rds ++ [x], by rw [upd_same, List.map_append]; rfl, ?_⟩
          rw [take_at hx]
          have hRx : Rd C S H6 x al A g := ⟨hxS, dx, qm, qg, h1, h2, h3⟩
          exact U.Paired.snoc (Paired.mapP hrds fun b r z => (z.same s06).upd hn1 hn2) (hRx.upd hn1 hn2)
      · obtain ⟨e10, rds, hD10, hrds⟩ := hq
        have e : pls.take (List.map V.ref pad).length = pls := by
          rw [List.length_map, hP9.length, List.take_length]
        rw [e] at hrds
        walk_at "go"
        exact ⟨D, rds, rfl, e10, hD10, hS9.notin hD, hrds⟩
    obtain ⟨RL, rds, rfl, e10, hRL10, hRLS, hrds⟩ := hq
    have hS10 := e10.src
    obtain ⟨r0, r1, rfl, hr0, hr1⟩ := paired2 hrds
    have hm0 := hm0.ev e10
    have hm1 := hm1.ev e10
    have hPL10 := e10.at hPS hPL9
    walk_at "go"
    refine ⟨S, s3, al, 6, rfl, iS3, e10.src, hal, by decide, fun z1 w1 H11 hz1 hw1 e11 => ?_⟩
    walk_at "go"
    refine ⟨S, s3, al, 40, rfl, iS3, e11.src, hal, by decide, fun z2 w2 H12 hz2 hw2 e12 => ?_⟩
    walk_at "go"
    refine ⟨sz2, fun W hW => ?_⟩
    have e13 := Ev.laid (o := .lst [.str (SX.S z1), .str (SX.S z2)]) e12.src hW
    have hWS := e12.src.notin hW
    have hW13 : (upd H12 W (.lst [.str (SX.S z1), .str (SX.S z2)])) W = some (.lst [.str (SX.S z1), .str (SX.S z2)]) := upd_same
    generalize upd H12 W (.lst [.str (SX.S z1), .str (SX.S z2)]) = H13 at *
    walk_at "go"
    refine ⟨sz3, fun q0 hq0 => ?_⟩
    have e14 := Ev.laid (o := .tup [.str "and", .int 0, .int 1]) e13.src hq0
    refine tAsk_read [("or", 0, 1), ("less", 0, 1), ("not", 0, 0), ("and", 1, 0), ("or", 1, 0), ("less", 1, 0), ("not", 1, 1), ("and", 0, 0), ("or", 1, 1), ("less", 0, 0)] _ _ fun as H15 s15 has => ?_
    have has2 : Paired (fun a x => H15 a = some (askV x)) (q0 :: as) asks11 := .cons (s15 _ _ upd_same) (Paired.mapP has fun _ _ z => z.2)
    have e15 := e14.trans (Ev.of_same e14.src s15)
    refine ⟨szl (by rw [List.length_cons, List.length_map, has.length]; decide), fun L hL => ?_⟩
    have e16 := Ev.laid (o := .lst ((q0 :: as).map V.ref)) e15.src hL
    have hLS := e15.src.notin hL
    have hL16 : (upd H15 L (.lst ((q0 :: as).map V.ref))) L = some (.lst ((q0 :: as).map V.ref)) := upd_same
    have has3 : Paired (fun a x => (upd H15 L (.lst ((q0 :: as).map V.ref))) a = some (askV x)) (q0 :: as) asks11 := Paired.mapP has2 fun _ _ z => e16.tup e15.src z
    have hreq : (HO.lst (V.ref q0 :: as.map V.ref)) = HO.lst ((q0 :: as).map V.ref) := rfl
    rw [hreq]
    generalize upd H15 L (.lst ((q0 :: as).map V.ref)) = H16 at *
    walk_at "go"
    have e06 := e11.trans (e12.trans (e13.trans (e15.trans e16)))
    have hm0 := hm0.ev e06
    have hm1 := hm1.ev e06
    have hr0 := hr0.ev e06
    have hr1 := hr1.ev e06
    have hPL := e06.at hPS hPL10
    have hRL := e06.at hRLS hRL10
    have hW16 := (e15.trans e16).at hWS hW13
    have hS16 := e06.src
    show C8.tCut _ _ _ _ _
    refine i_cut (fun σ H' => ∃ (KL : Addr) (x9 : Option V), σ = [some (.ref a), some (.ref s1), some (.ref s2), some (.ref s3), some (.str (SX.S al)), some (.ref PL), some (.ref RL), some (.ref W), some (.ref KL), x9, none, none, none] ∧ Ev S H16 H' ∧ Asks S H' KL) ?_ (fun σ H' hq => ?_)
    · obtain ⟨⟨hpS0, pm0, pg0, hp01, hp02, hp03⟩, wA0, kA0⟩ := id hm0
      obtain ⟨⟨hpS1, pm1, pg1, hp11, hp12, hp13⟩, wA1, kA1⟩ := id hm1
      obtain ⟨t0, v0, hv0, hl0⟩ := hp02.len
      obtain ⟨t1, v1, hv1, hl1⟩ := hp12.len
      have hle0 := wA0.le
      have hle1 := wA1.le
      walk_at "go"
      refine i_lenQ hv0 ?_
      rw [hl0]
      walk_at "go"
      refine i_lenQ hv1 ?_
      rw [hl1]
      walk_at "go"
      refine iteD (fun hx => ?_) (fun hx => ?_)
      · walk_at "go"
        refine ⟨S, s3, _, rfl, iS3, hS16, by decide, by decide, fun kk H17 n0 n1 e17 => ?_⟩
        obtain ⟨kk, rfl⟩ := Int.eq_ofNat_of_zero_le n0
        have L17 := e17.at hLS hL16
        have has17 : Paired (fun a x => H17 a = some (askV x)) (q0 :: as) asks11 := Paired.mapP has3 fun _ _ z => e17.tup hS16 z
        have h11 : asks11.length = 11 := rfl
        obtain ⟨b0, x0, hb0, hx0, hbv0⟩ := asks_at has17 (d := kk) (by omega)
        obtain ⟨b1, x1, hb1, hx1, hbv1⟩ := asks_at has17 (d := 4 + kk) (by omega)
        walk_at "go"
        refine i_ixL L17 (v := .ref b0) (atI_nat (map_at hb0)) ?_
        walk_at "go"
        refine i_ixL L17 (v := .ref b1) (atI_nat (j := 4 + kk) (map_at hb1)) ?_
        walk_at "go"
        refine ⟨sz3, fun T hT => ?_⟩
        have e18 := Ev.laid (o := .tup [.str "not", .int ((kk : Int) / 2), .int ((kk : Int) / 2)]) e17.src hT
        walk_at "go"
        refine ⟨sz3, fun L2 hL2 => ?_⟩
        have e19 := Ev.laid (o := .lst [.ref b0, .ref b1, .ref T]) e18.src hL2
        walk_at "go"
        have h2 : ((kk : Int) / 2 = 0 ∨ (kk : Int) / 2 = 1) := by omega
        refine ⟨L2, _, rfl, e17.trans (e18.trans e19), e18.src.notin hL2, [b0, b1, T], [x0, x1, ("not", (kk : Int) / 2, (kk : Int) / 2)], upd_same, .cons (e19.tup e18.src (e18.tup e17.src hbv0)) (.cons (e19.tup e18.src (e18.tup e17.src hbv1)) (.cons (e19.tup e18.src upd_same) .nil)), fun x hx => ?_, by show 0 < 3; decide, by show 3 ≤ 11; decide⟩
        rcases List.mem_cons.mp hx with rfl | hx
        · exact asks11_ok _ hx0
        · rcases List.mem_cons.mp hx with rfl | hx
          · exact asks11_ok _ hx1
          · rw [List.mem_singleton.mp hx]
            exact ⟨by simp [opsW], h2, h2⟩
      · walk_at "go"
        exact ⟨L, none, rfl, .refl hS16, hLS, _, asks11, hL16, has3, asks11_ok, by decide, by decide⟩
    obtain ⟨KL, x9, rfl, e17, hAK⟩ := hq
    have hm0 := hm0.ev e17
    have hm1 := hm1.ev e17
    have hr0 := hr0.ev e17
    have hr1 := hr1.ev e17
    have hPL := e17.at hPS hPL
    have hRL := e17.at hRLS hRL
    have hW := e17.at hWS hW16
    have hS17 := e17.src
    have ask : ∀ (H4 : Hp) (kp : Addr) (x : Str × Int × Int) (G : VK), Ev S H' H4 → H4 kp = some (askV x) → AskOk x → (∀ H5, Same H4 H5 → G (.bl true) H5) → sp_law_asked C [.str (SX.S al), .ref PL, .ref RL, .ref kp, .ref W] H4 G C8.E0 := fun H4 kp x G e hx ok hG => by
      obtain ⟨wd, i, j⟩ := x
      obtain ⟨o1, o2, o3⟩ := ok
      have hi : ∃ i' : Nat, i = (i' : Int) ∧ i' < 2 := by
        rcases o2 with h | h
        · exact ⟨0, h, by decide⟩
        · exact ⟨1, h, by decide⟩
      have hj : ∃ j' : Nat, j = (j' : Int) ∧ j' < 2 := by
        rcases o3 with h | h
        · exact ⟨0, h, by decide⟩
        · exact ⟨1, h, by decide⟩
      obtain ⟨i', rfl, hi⟩ := hi
      obtain ⟨j', rfl, hj⟩ := hj
      exact ⟨al, PL, RL, kp, W, p0, p1, r0, r1, A0, g0, A1, g1, wd, i', j', z1, w1, z2, w2, rfl, ⟨e.at hPS hPL, e.at hRLS hRL, hx, e.at hWS hW⟩, ⟨(hm0.1.ev e).weak fun _ z => z.elim, (hr0.ev e).weak fun _ z => z.elim, hm0.2.1, hm0.2.2⟩, ⟨(hm1.1.ev e).weak fun _ z => z.elim, (hr1.ev e).weak fun _ z => z.elim, hm1.2.1, hm1.2.2⟩, hal, hi, hj, o1, ⟨hw1, by omega, hw2, by omega⟩, hG⟩
    obtain ⟨nK, ks, Lk, hK, hks, hok', hkl, hku⟩ := id hAK
    walk_at "go"
    refine seq_for (t := false) hK (fun n σ H4 => ∃ x10, σ = [some (.ref a), some (.ref s1), some (.ref s2), some (.ref s3), some (.str (SX.S al)), some (.ref PL), some (.ref RL), some (.ref W), some (.ref KL), x9, x10, none, none] ∧ Same H' H4) ⟨_, rfl, .refl _⟩ (fun n σ H4 _ ⟨_, _, s⟩ => s _ _ hK) (fun n v σ H4 hv hq => ?_) (fun σ H4 hq => ?_)
    · obtain ⟨x10, rfl, s4⟩ := hq
      obtain ⟨kp, hkp, rfl⟩ := at_map hv
      obtain ⟨x, hx, hkx⟩ := Paired.at0 hks hkp
      walk_at "go"
      refine ask H4 kp x _ (.of_same hS17 s4) (s4 _ _ hkx) (hok' _ (List.mem_of_getElem? hx)) fun H5 s5 => ?_
      walk_at "go"
      exact ⟨_, rfl, s4.trans s5⟩
    obtain ⟨x10, rfl, s4⟩ := hq
    have e4 : Ev S H' H4 := .of_same hS17 s4
    have hk2 : ∀ n : Nat, n < 2 → ∃ (pa ra : Addr) (A : Rws) (g : List Nat), atI ([.ref p0, .ref p1] : List V) (n : Int) = some (.ref pa) ∧ atI ([.ref r0, .ref r1] : List V) (n : Int) = some (.ref ra) ∧ Mach S H' pa A g ∧ Rd C S H' ra al A g ∧ WF al.length A ∧ GOK A.length g := fun n hn => by
      have : n = 0 ∨ n = 1 := by omega
      rcases this with rfl | rfl
      · exact ⟨p0, r0, A0, g0, rfl, rfl, hm0.1, hr0, hm0.2.1, hm0.2.2⟩
      · exact ⟨p1, r1, A1, g1, rfl, rfl, hm1.1, hr1, hm1.2.1, hm1.2.2⟩
    walk_at "go"
    refine ⟨by decide, by decide, ?_⟩
    refine rng0_for (n := 2) (fun i σ H5 => ∃ x9, σ = [some (.ref a), some (.ref s1), some (.ref s2), some (.ref s3), some (.str (SX.S al)), some (.ref PL), some (.ref RL), some (.ref W), some (.ref KL), x9, x10, none, none] ∧ Same H' H5) ⟨_, rfl, s4⟩ (fun i σ H5 hi hq => ?_) (fun σ H5 hq => ?_)
    · obtain ⟨x9, rfl, s5⟩ := hq
      obtain ⟨pa, ra, A, g, ia, ja, hma, hra, hwA, hgA⟩ := hk2 i hi
      have hPL5 := s5 _ _ hPL
      have hRL5 := s5 _ _ hRL
      walk_at "go"
      refine i_ixL hPL5 ia ?_
      walk_at "go"
      refine i_ixL hRL5 ja ?_
      walk_at "go"
      refine ⟨S, al, pa, ra, A, g, rfl, hma.same s5, hra.same s5, hal, hwA, hgA, fun H6 s6 => ?_⟩
      walk_at "go"
      exact ⟨_, rfl, s5.trans s6⟩
    obtain ⟨x9, rfl, s5⟩ := hq
    have e5 : Ev S H' H5 := .of_same hS17 s5
    walk_at "go"
    refine ⟨S, s3, al, RL, r0, r1, A0, g0, A1, g1, rfl, iS3, e5.src, hal, hmen, hRLS, e5.at hRLS hRL, hr0.ev e5, hr1.ev e5, hm0.2.1, hm1.2.1, fun H6 e6 => ?_⟩
    have e56 := e5.trans e6
    walk_at "go"
    refine i_ixL (e56.at hPS hPL) (i := 0) (v := .ref p0) rfl ?_
    walk_at "go"
    refine i_ixL (e56.at hRLS hRL) (i := 0) (v := .ref r0) rfl ?_
    walk_at "go"
    refine ⟨S, al, p0, r0, A0, g0, rfl, hm0.1.ev e56, hr0.ev e56, hal, hm0.2.1, hm0.2.2, fun H7 s7 => ?_⟩
    have e57 := e56.trans (.of_same e56.src s7)
    walk_at "go"
    refine i_ixL (e57.at hPS hPL) (i := 1) (v := .ref p1) rfl ?_
    walk_at "go"
    refine i_ixL (e57.at hRLS hRL) (i := 1) (v := .ref r1) rfl ?_
    walk_at "go"
    refine ⟨S, al, p1, r1, A1, g1, rfl, hm1.1.ev e57, hr1.ev e57, hal, hm1.2.1, hm1.2.2, fun H8 s8 => ?_⟩
    have e58 := e57.trans (.of_same e57.src s8)
    walk_at "go"
    refine i_lenQ (t := false) (e58.at nK hK) ?_
    rw [List.length_map, hks.length]
    walk_at "go"
    refine ⟨S, s3, _, rfl, iS3, e58.src, by omega, by omega, fun n H9 n0 n1 e9 => ?_⟩
    obtain ⟨n, rfl⟩ := Int.eq_ofNat_of_zero_le n0
    obtain ⟨kp, x, hkp, hx, hkx⟩ := asks_at hks (d := n) (by omega)
    have e59 := e58.trans e9
    refine i_ixL (e59.at nK hK) (v := .ref kp) (atI_nat (map_at hkp)) ?_
    walk_at "go"
    refine ask _ kp x _ e59 (e59.tup hS17 hkx) (hok' _ hx) fun H10 s10 => ?_
    walk_at "go"
    exact k _
end
set_option maxHeartbeats 8000000
open X7
/-- a def of the top -/
def DX (K : PySem.W.Frag) (mg : Str → Option Value) (x : Str) (st : Stmt) : Prop := ∃ (f : Addr) (fd : FuncData), C8.Def K mg x st f fd ∧ fd.defaults = .none
def MX (K : PySem.W.Frag) (C : Addr) (m qual : Str) (st : Stmt) : Prop := ∃ (f : Addr) (fd : FuncData), C8.Fun K m qual st f fd ∧ fd.defaults = .none ∧ OwnM K C m f
def IX (K : PySem.W.Frag) (C : Addr) (qual : Str) (st : Stmt) : Prop := ∃ (f : Addr) (fd : FuncData), C8.Fun K "__init__" qual st f fd ∧ fd.defaults = .none ∧ Mk K C f
section
variable {K : PySem.W.Frag} {mg : Str → Option Value} {h : Heap} {x m qual : Str} {st : Stmt} {f C : Addr} {oc kV dc pm cd ct : Value} {od an : Option Addr} {sl : Array (Option Value)}
theorem dx_mk (X : K.In h) (G : h.Ns mainGlobals mg) (a : PySem.W.nsIn K mainGlobals x = some (some (.ref f))) (l : K.lookup f = some ⟨oc, od, .func (PySem.W.fnOf x x (C8.fnArgs st) (C8.fnBody st) (C8.fnScope st) .none kV dc pm an cd ct), sl⟩)
    (c : PySem.W.codeIn K cd x = true) (k : PySem.W.keepIn K (.ref f) = true) : DX K mg x st := ⟨f, _, ⟨⟨oc, od, .none, kV, dc, pm, an, cd, ct, sl, rfl, l, c⟩, PySem.W.mg_of X G a, k⟩, rfl⟩
theorem mx_mk (a : PySem.W.findIn K (.ref C) m = some (some (.ref f))) (i : PySem.W.isFn K (.ref f) = true) (l : K.lookup f = some ⟨oc, od, .func (PySem.W.fnOf m qual (C8.fnArgs st) (C8.fnBody st) (C8.fnScope st) .none kV dc pm an cd ct), sl⟩)
    (c : PySem.W.codeIn K cd qual = true) : MX K C m qual st := ⟨f, _, ⟨oc, od, .none, kV, dc, pm, an, cd, ct, sl, rfl, l, c⟩, rfl, a, i⟩
def OX (K : PySem.W.Frag) (C : Addr) (nm m qual : Str) (st : Stmt) : Prop := ∃ (f : Addr) (fd : FuncData), C8.Fun K m qual st f fd ∧ fd.defaults = .none ∧ ∃ (c : ClassData) (r : List Value), PySem.W.clsIn K C = some c ∧ c.mro = .ref C :: r ∧ PySem.W.findIn K (.ref C) nm = some (some (.ref f)) ∧ PySem.W.isFn K (.ref f) = true
theorem ox_mk {nm : Str} {c' : ClassData} {r : List Value} (a : PySem.W.findIn K (.ref C) nm = some (some (.ref f))) (i : PySem.W.isFn K (.ref f) = true) (l : K.lookup f = some ⟨oc, od, .func (PySem.W.fnOf m qual (C8.fnArgs st) (C8.fnBody st) (C8.fnScope st) .none kV dc pm an cd ct), sl⟩)
    (c : PySem.W.codeIn K cd qual = true) (hc : PySem.W.clsIn K C = some c') (hm : c'.mro = .ref C :: r) : OX K C nm m qual st := ⟨f, _, ⟨oc, od, .none, kV, dc, pm, an, cd, ct, sl, rfl, l, c⟩, rfl, c', r, hc, hm, a, i⟩
def TX (K : PySem.W.Frag) (C : Addr) (m qual : Str) (st : Stmt) : Prop := ∃ (f : Addr) (fd : FuncData), C8.Fun K m qual st f fd ∧ fd.defaults = .none ∧ Meth K C m f
theorem tx_mk (a : PySem.W.findIn K (.ref C) m = some (some (.ref f))) (i : PySem.W.isFn K (.ref f) = true) (kp : PySem.W.keepIn K (.ref f) = true) (l : K.lookup f = some ⟨oc, od, .func (PySem.W.fnOf m qual (C8.fnArgs st) (C8.fnBody st) (C8.fnScope st) .none kV dc pm an cd ct), sl⟩)
    (c : PySem.W.codeIn K cd qual = true) : TX K C m qual st := ⟨f, _, ⟨oc, od, .none, kV, dc, pm, an, cd, ct, sl, rfl, l, c⟩, rfl, a, i, kp⟩
def StX (K : PySem.W.Frag) (C : Addr) (m qual : Str) (st : Stmt) : Prop := ∃ (f p : Addr) (fd : FuncData) (r : List Value), C8.Fun K m qual st f fd ∧ fd.defaults = .none ∧ PySem.W.keepIn K (.ref f) = true ∧ PySem.W.specialIn K (.ref C) "__getattribute__" = some (some (.builtin "type.__getattribute__")) ∧ PySem.W.typeIn K (.ref C) = some (.type "type") ∧
    PySem.W.readsIn K C (.type "type") = true ∧ PySem.W.findCls K (.ref C) (.type "type") m = some (.get (.builtin "staticmethod.__get__") (.ref p) .none (.ref C)) ∧ PySem.W.recIn K p "staticmethod" = some (.ref f :: r) ∧ PySem.W.handedIn (.ref f) = true
theorem st_mk {p : Addr} {r : List Value} (fc : PySem.W.findCls K (.ref C) (.type "type") m = some (.get (.builtin "staticmethod.__get__") (.ref p) .none (.ref C))) (rc : PySem.W.recIn K p "staticmethod" = some (.ref f :: r)) (l : K.lookup f = some ⟨oc, od, .func (PySem.W.fnOf m qual (C8.fnArgs st) (C8.fnBody st) (C8.fnScope st) .none kV dc pm an cd ct), sl⟩)
    (c : PySem.W.codeIn K cd qual = true) (kp : PySem.W.keepIn K (.ref f) = true) (sp : PySem.W.specialIn K (.ref C) "__getattribute__" = some (some (.builtin "type.__getattribute__"))) (ty : PySem.W.typeIn K (.ref C) = some (.type "type")) (rd : PySem.W.readsIn K C (.type "type") = true) (hd : PySem.W.handedIn (.ref f) = true) : StX K C m qual st :=
  ⟨f, p, _, r, ⟨oc, od, .none, kV, dc, pm, an, cd, ct, sl, rfl, l, c⟩, rfl, kp, sp, ty, rd, fc, rc, hd⟩
/-- an error's __init__, by its text alone -/
structure IniB (st : Stmt) (qual : Str) : Prop where
  sn : NdefX.NScope ["self", "what", "__class__"] ["self", "what"] ["__class__"] (C8.fnScope st)
  ks : (C8.fnScope st).names.lookup ("super" : Str) = some .globalImplicit
  bd : ∃ e : Expr, (∃ p0 p1 p2 p3 p4 q1 q2 q3 q4 : Pos, (p2.endLine == p3.line) = true ∧ C8.fnBody st = [.Expr (.Call (.Attribute (.Call (.Name "super" p0) [] [] p1) "__init__" p2) [e] [] p3) p4, .Assign [.Attribute (.Name "self" q1) "what" q2] (.Name "what" q3) q4]) ∧ ArgE e "what" FmtOk
  pr : ∃ ar : Arg, ((C8.fnArgs st).posonlyargs ++ (C8.fnArgs st).args).head? = some ar ∧ ar.arg = "self"
  bs : ∀ (kV dc pm ct : Value) (an : Option Addr) (cda cc : Addr) (us : List Value), us.length = 2 → bindArgs (iniFd st qual kV dc pm ct an cda cc) ⟨us, []⟩ = pure ((["self", "what"] : List Str).zip us)
def EX (P : Program) (K : PySem.W.Frag) (mg : Str → Option Value) (x : Str) (C : Addr) : Prop := ∀ (w : World) (base : Heap), MakE P w K mg base x C C "what" FmtOk
open PySem.HandSPX in
theorem ex_mk {P : Program} {fI cc cda : Addr} {ccl cl : Value} {cdd cld : Option Addr} {ccs csl : Array (Option Value)} {vs : Array Value} {file : Str} {tf : Tok} {nm q : Str} {N : Addr} {bs bm : List Value} {sn : List Str} {sub : List Value} {ab : Bool} {col : Option Bool} {dd : Option Addr} {k0 k1 k2 k3 k5 : Option Value} {c' : ClassData} (B : IniB st qual) (X : K.In h) (G : h.Ns mainGlobals mg)
    (aC : PySem.W.nsIn K mainGlobals x = some (some (.ref C))) (fi : PySem.W.findIn K (.ref C) "__init__" = some (some (.ref fI))) (tI : PySem.W.typeIn K (.ref fI) = some (.type "function"))
    (lk : K.lookup fI = some ⟨oc, od, .func (iniFd st qual kV dc pm ct an cda cc), sl⟩) (hcd : PySem.W.codeIn K (.ref cda) qual = true) (lc : K.lookup cda = some ⟨ccl, cdd, .fields vs, ccs⟩) (hvs : vs[2]? = some (.str file tf))
    (hfile : ((P.main.file : Str) == file) = true) (htop : (P.main.scope.names.lookup ("super" : Str)).isSome = false) (lcc : K.lookup cc = some ⟨cl, cld, .cell (some (.ref C)), csl⟩) (hsup : PySem.W.nsIn K mainGlobals "super" = some none)
    (ox : K.lookup C = some (excClassObj nm q C N bs bm true sn sub ab col dd k0 k1 k2 k3 k5 "ValueError.__new__")) (rv : PySem.HandSPX.refsVE bm = true) (sa : PySem.W.findIn K (.ref C) "__setattr__" = some (some (.builtin "object.__setattr__"))) (exC : PySem.W.subIn K (.ref C) (.type "BaseException") = some true)
    (tyC : PySem.W.typeIn K (.ref C) = some (.type "type")) (kC : PySem.W.keepIn K (.ref C) = true) (cD : PySem.W.clsIn K C = some c') (sb : PySem.W.mroIn K C (.ref C) = some true) (su : PySem.W.ks_superIn K C C "__init__" = some (some (.builtin "ValueError.__init__")))
    (sB : PySem.W.subIn K (.ref C) (.type "ValueError") = some true) (nf : PySem.W.findIn K (.ref C) "what" = some none) (op : PySem.W.nsIn K cStatics "thirdparty.any" = some none) : EX P K mg x C := fun w base => by
  obtain ⟨e, hbd, hE⟩ := B.bd
  exact ⟨⟨fI, _, _, ini_ok lk hcd lc hvs hfile htop lcc (PySem.W.mg_none_of X G hsup) B.sn B.ks hbd B.pr hE (by decide +kernel) (by decide +kernel), .all (B.bs _ _ _ _ _ _ _), fi, tI⟩, ⟨⟨⟨nm, q, N, bs, bm, sn, sub, ab, col, dd, k0, k1, k2, k3, k5, ox, rv⟩, sa, exC, tyC, kC⟩, ⟨_, cD⟩, sb, su, sB, nf, op⟩, PySem.W.mg_of X G aC⟩
theorem er_mk {l wt wi tm un nn E : Addr} {bT bU : Bool} (ex : PySem.W.exmOne K (.ref E) (.ref l) = some true) (hg : PySem.W.findIn K (.ref E) "__getattribute__" = some (some (.builtin "BaseException.__getattribute__"))) (hk : PySem.W.findIn K (.ref E) "__getattr__" = some none) (hs : PySem.W.subIn K (.ref E) (.type "BaseException") = some true)
    (hd : PySem.W.hasDictIn K E = true) (ha : PySem.W.findIn K (.ref E) "__class__" = some (some (.builtin "object.__class__"))) (hn : PySem.W.specialIn K (.builtin "object.__class__") "__get__" = some (some (.builtin "getset_descriptor.__get__"))) (ht : PySem.W.takesIn K (.builtin "object.__class__") = some true) (hm : PySem.W.mroIn K E (.type "object") = some true)
    (nw : PySem.W.findIn K (.ref E) "what" = some none) (kv : PySem.W.kitOne K (.ref E) (.type "ValueError") = some true) (kt : PySem.W.kitOne K (.ref E) (.ref tm) = some bT) (ku : PySem.W.kitOne K (.ref E) (.ref un) = some bU) (ko : PySem.W.kitAny K (.ref E) [.ref nn, .ref wi, .ref wt] = some false) : ErF K ⟨l, wt, wi, tm, un, nn⟩ E bT bU :=
  ⟨ex, ⟨hg, hk, hs, hd, ha, hn, ht, hm⟩, ⟨hg, hk, hs, hd⟩, nw, kv, kt, ku, ko⟩
theorem ix_mk (mk : PySem.W.makesIn K C = true) (a : PySem.W.findIn K (.ref C) "__init__" = some (some (.ref f))) (i : PySem.W.isFn K (.ref f) = true) (kc : PySem.W.keepIn K (.ref C) = true) (l : K.lookup f = some ⟨oc, od, .func (PySem.W.fnOf "__init__" qual (C8.fnArgs st) (C8.fnBody st) (C8.fnScope st) .none kV dc pm an cd ct), sl⟩)
    (c : PySem.W.codeIn K cd qual = true) : IX K C qual st := ⟨f, _, ⟨oc, od, .none, kV, dc, pm, an, cd, ct, sl, rfl, l, c⟩, rfl, mk, a, i, kc⟩
def LX (K : PySem.W.Frag) (f : Addr) (st : Stmt) : Prop := ∃ fd : FuncData, C8.Fun K "law" "law" st f fd ∧ ∀ (s : Shared) (v : Value), BindsTo s fd ⟨[v], []⟩ [("script", v)]
theorem lx_mk (X : K.In h) (G : h.Ns mainGlobals mg) {fa : Addr} (hfa : mg "law" = some (.ref fa)) (a : PySem.W.nsIn K mainGlobals "law" = some (some (.ref f))) (l : K.lookup f = some ⟨oc, od, .func (PySem.W.fnOf "law" "law" (C8.fnArgs s_law) (C8.fnBody s_law) (C8.fnScope s_law) .none kV dc pm an cd ct), sl⟩)
    (c : PySem.W.codeIn K cd "law" = true) : LX K fa s_law := by
  have e := hfa.symm.trans (PySem.W.mg_of X G a)
  cases e
  exact ⟨_, ⟨oc, od, .none, kV, dc, pm, an, cd, ct, sl, rfl, l, c⟩, fun s v => .of_eq rfl⟩
end
theorem txt_mk {K : PySem.W.Frag} {mg : Str → Option Value} {h : Heap} {C l wt wi tm un nn : Addr} (X : K.In h) (G : h.Ns mainGlobals mg) (z_int : PySem.W.nsIn K mainGlobals "int" = some none) (z_len : PySem.W.nsIn K mainGlobals "len" = some none) (z_abs : PySem.W.nsIn K mainGlobals "abs" = some none) (z_range : PySem.W.nsIn K mainGlobals "range" = some none) (z_tuple : PySem.W.nsIn K mainGlobals "tuple" = some none) (z_list : PySem.W.nsIn K mainGlobals "list" = some none) (z_isinstance : PySem.W.nsIn K mainGlobals "isinstance" = some none) (z_all : PySem.W.nsIn K mainGlobals "all" = some none) (z_any : PySem.W.nsIn K mainGlobals "any" = some none) (z_enumerate : PySem.W.nsIn K mainGlobals "enumerate" = some none) (z_min : PySem.W.nsIn K mainGlobals "min" = some none) (z_str : PySem.W.nsIn K mainGlobals "str" = some none) (z_bool : PySem.W.nsIn K mainGlobals "bool" = some none) (z_set : PySem.W.nsIn K mainGlobals "set" = some none) (z_repr : PySem.W.nsIn K mainGlobals "repr" = some none) (z_ValueError : PySem.W.nsIn K mainGlobals "ValueError" = some none) (z_super : PySem.W.nsIn K mainGlobals "super" = some none) {t_MOST_ROOMS : Tok} (y_MOST_ROOMS : PySem.W.nsIn K mainGlobals "MOST_ROOMS" = some (some (.int 60 t_MOST_ROOMS))) {t_TEXT_LETTERS : Tok} (y_TEXT_LETTERS : PySem.W.nsIn K mainGlobals "TEXT_LETTERS" = some (some (.int 40 t_TEXT_LETTERS))) {t_SMALL : Tok} (y_SMALL : PySem.W.nsIn K mainGlobals "SMALL" = some (some (.str SMALL t_SMALL)))
    (aC : PySem.W.nsIn K mainGlobals "Reader" = some (some (.ref C))) (pg : PySem.W.plainGet K C Str.empty = true) (hd : PySem.W.hasDictIn K C = true) (po : PySem.W.plainOver K C = true) (sa : PySem.W.findIn K (.ref C) "__setattr__" = some (some (.builtin "object.__setattr__")))
    (nA : PySem.W.findIn K (.ref C) "alphabet" = some none) (nM : PySem.W.findIn K (.ref C) "moves" = some none) (nG : PySem.W.findIn K (.ref C) "good" = some none)
    (ha : PySem.W.findIn K (.ref C) "__class__" = some (some (.builtin "object.__class__"))) (hn : PySem.W.specialIn K (.builtin "object.__class__") "__get__" = some (some (.builtin "getset_descriptor.__get__"))) (htk : PySem.W.takesIn K (.builtin "object.__class__") = some true) (hm : PySem.W.mroIn K C (.type "object") = some true)
    (ne : PySem.W.findIn K (.ref C) "__ne__" = some (some (.builtin "object.__ne__"))) (kl : PySem.W.kitOne K (.ref C) (.type "list") = some false)
    (aL : PySem.W.nsIn K mainGlobals "LotsError" = some (some (.ref l))) (aWT : PySem.W.nsIn K mainGlobals "WrongThing" = some (some (.ref wt))) (aWI : PySem.W.nsIn K mainGlobals "WrongItem" = some (some (.ref wi))) (aTM : PySem.W.nsIn K mainGlobals "TooMany" = some (some (.ref tm))) (aUN : PySem.W.nsIn K mainGlobals "Unlike" = some (some (.ref un))) (aNN : PySem.W.nsIn K mainGlobals "NoName" = some (some (.ref nn)))
    (eT : ErF K ⟨l, wt, wi, tm, un, nn⟩ tm true false) (eU : ErF K ⟨l, wt, wi, tm, un, nn⟩ un false true) : Txt K mg C ⟨l, wt, wi, tm, un, nn⟩ :=
  ⟨PySem.W.mg_none_of X G z_int, PySem.W.mg_none_of X G z_len, PySem.W.mg_none_of X G z_abs, PySem.W.mg_none_of X G z_range, PySem.W.mg_none_of X G z_tuple, PySem.W.mg_none_of X G z_list, PySem.W.mg_none_of X G z_isinstance, PySem.W.mg_none_of X G z_all, PySem.W.mg_none_of X G z_any, PySem.W.mg_none_of X G z_enumerate, PySem.W.mg_none_of X G z_min, PySem.W.mg_none_of X G z_str, PySem.W.mg_none_of X G z_bool, PySem.W.mg_none_of X G z_set, PySem.W.mg_none_of X G z_repr, PySem.W.mg_none_of X G z_ValueError, PySem.W.mg_none_of X G z_super, ⟨_, PySem.W.mg_of X G y_MOST_ROOMS, ⟨_, rfl⟩⟩, ⟨_, PySem.W.mg_of X G y_TEXT_LETTERS, ⟨_, rfl⟩⟩, ⟨_, PySem.W.mg_of X G y_SMALL, ⟨_, rfl⟩⟩, ⟨pg, hd, po, sa⟩, nA, nM, nG, PySem.W.mg_of X G aC, ⟨⟨pg, hd, po, sa⟩, ha, hn, htk, hm, if_pos (beq_self_eq_true _)⟩, ne, hm, kl, PySem.W.mg_of X G aL, PySem.W.mg_of X G aWT, PySem.W.mg_of X G aWI, PySem.W.mg_of X G aTM, PySem.W.mg_of X G aUN, PySem.W.mg_of X G aNN, eT, eU⟩
abbrev s_TooMany : Stmt := inClass (top 8) 0
theorem ib_TooMany : IniB s_TooMany "TooMany.__init__" := ⟨NdefX.nscope_by (by decide +kernel), by decide +kernel, ⟨_, ⟨_, _, _, _, _, _, _, _, _, by decide +kernel, rfl⟩, arg_fmt (by decide +kernel) (by decide +kernel) (by decide +kernel)⟩, ⟨_, rfl, by decide +kernel⟩, fun _ _ _ _ _ _ _ us hl => match us, hl with | [_, _], _ => rfl⟩
abbrev s_Unlike : Stmt := inClass (top 9) 0
theorem ib_Unlike : IniB s_Unlike "Unlike.__init__" := ⟨NdefX.nscope_by (by decide +kernel), by decide +kernel, ⟨_, ⟨_, _, _, _, _, _, _, _, _, by decide +kernel, rfl⟩, arg_fmt (by decide +kernel) (by decide +kernel) (by decide +kernel)⟩, ⟨_, rfl, by decide +kernel⟩, fun _ _ _ _ _ _ _ us hl => match us, hl with | [_, _], _ => rfl⟩
theorem fin {P : Program} {w : World} {K : PySem.W.Frag} {mg : Str → Option Value} {C fa : Addr} {r : Er} (T : Txt K mg C r)
    (D_law_pick : DX K mg "_law_pick" s_law_pick)
    (D_is_integer : DX K mg "is_integer" s_is_integer)
    (D_is_listed : DX K mg "is_listed" s_is_listed)
    (D_is_alphabet : DX K mg "is_alphabet" s_is_alphabet)
    (D_check_alphabet : DX K mg "check_alphabet" s_check_alphabet)
    (D_text_fault : DX K mg "text_fault" s_text_fault)
    (D_check_text : DX K mg "check_text" s_check_text)
    (D_reached_rooms : DX K mg "reached_rooms" s_reached_rooms)
    (D_joint_table : DX K mg "joint_table" s_joint_table)
    (D_checked_moves : DX K mg "checked_moves" s_checked_moves)
    (D_checked_good : DX K mg "checked_good" s_checked_good)
    (D_room_of : DX K mg "room_of" s_room_of)
    (D_good_marks : DX K mg "good_marks" s_good_marks)
    (D_room_classes : DX K mg "room_classes" s_room_classes)
    (D_least_table : DX K mg "least_table" s_least_table)
    (D_reader_of_table : DX K mg "reader_of_table" s_reader_of_table)
    (D_check_same_letters : DX K mg "check_same_letters" s_check_same_letters)
    (D_met : DX K mg "met" s_met)
    (D_law_source : DX K mg "_law_source" s_law_source)
    (D_law_alphabet : DX K mg "_law_alphabet" s_law_alphabet)
    (D_law_word : DX K mg "_law_word" s_law_word)
    (D_law_reader : DX K mg "_law_reader" s_law_reader)
    (D_law_room : DX K mg "_law_room" s_law_room)
    (D_law_words : DX K mg "_law_words" s_law_words)
    (D_law_done : DX K mg "_law_done" s_law_done)
    (D_law_due : DX K mg "_law_due" s_law_due)
    (D_law_joint : DX K mg "_law_joint" s_law_joint)
    (D_law_within : DX K mg "_law_within" s_law_within)
    (D_law_is_number : DX K mg "_law_is_number" s_law_is_number)
    (D_law_is_reader : DX K mg "_law_is_reader" s_law_is_reader)
    (D_law_stays : DX K mg "_law_stays" s_law_stays)
    (D_law_in_order : DX K mg "_law_in_order" s_law_in_order)
    (D_law_changed : DX K mg "_law_changed" s_law_changed)
    (D_law_line : DX K mg "_law_line" s_law_line)
    (D_law_classes : DX K mg "_law_classes" s_law_classes)
    (D_law_tells : DX K mg "_law_tells" s_law_tells)
    (D_law_holds : DX K mg "_law_holds" s_law_holds)
    (D_law_some : DX K mg "_law_some" s_law_some)
    (D_law_rings : DX K mg "_law_rings" s_law_rings)
    (D_law_thin : DX K mg "_law_thin" s_law_thin)
    (D_law_both : DX K mg "_law_both" s_law_both)
    (D_law_strange : DX K mg "_law_strange" s_law_strange)
    (D_law_turned : DX K mg "_law_turned" s_law_turned)
    (D_law_asked : DX K mg "_law_asked" s_law_asked)
    (D_Readerd_initd : IX K C "Reader.__init__" s_Readerd_initd)
    (D_Readerd_containsd : MX K C "__contains__" "Reader.__contains__" s_Readerd_containsd)
    (D_Readerd_eqd : MX K C "__eq__" "Reader.__eq__" s_Readerd_eqd)
    (D_Readerd_andd : OX K C (PySem.dunder Operator.BitAnd.info.2) "__and__" "Reader.__and__" s_Readerd_andd)
    (D_Readerd_ord : OX K C (PySem.dunder Operator.BitOr.info.2) "__or__" "Reader.__or__" s_Readerd_ord)
    (D_Readerd_subd : OX K C (PySem.dunder Operator.Sub.info.2) "__sub__" "Reader.__sub__" s_Readerd_subd)
    (D_Readerd_invertd : OX K C "__invert__" "__invert__" "Reader.__invert__" s_Readerd_invertd)
    (D_Reader_full : StX K C "full" "Reader.full" s_Reader_full)
    (D_Reader_bare : StX K C "bare" "Reader.bare" s_Reader_bare)
    (D_Reader_room : TX K C "room" "Reader.room" s_Reader_room)
    (E_TooMany : EX P K mg "TooMany" r.TooMany)
    (E_Unlike : EX P K mg "Unlike" r.Unlike)
    (L : LX K fa s_law) : ∃ fd : FuncData, (∀ (s : Shared) (v : Value), BindsTo s fd ⟨[v], []⟩ [("script", v)]) ∧ ∀ base : Heap, K.In base → base.Ns mainGlobals mg → FnOk P w K mg base C8.CX0 11 fa fd ["script"] (sp_law K) := by
  obtain ⟨fdL, FL, bL⟩ := L
  refine ⟨fdL, bL, fun base _ _ => ?_⟩
  have e_TooMany := E_TooMany w base
  have e_Unlike := E_Unlike w base
  obtain ⟨f_law_pick, fd_law_pick, F_law_pick, n_law_pick⟩ := D_law_pick
  have c_law_pick := ok_law_pick (P := P) (w := w) (base := base) F_law_pick T (C8.Fun.binds F_law_pick.fn n_law_pick (ps := ["source", "many"]) (fun _ _ _ _ _ _ us hl => match us, hl with | [_, _], _ => rfl)) 
  obtain ⟨f_is_integer, fd_is_integer, F_is_integer, n_is_integer⟩ := D_is_integer
  have c_is_integer := ok_is_integer (P := P) (w := w) (base := base) F_is_integer T (C8.Fun.binds F_is_integer.fn n_is_integer (ps := ["thing", "low", "high"]) (fun _ _ _ _ _ _ us hl => match us, hl with | [_, _, _], _ => rfl)) 
  obtain ⟨f_is_listed, fd_is_listed, F_is_listed, n_is_listed⟩ := D_is_listed
  have c_is_listed := ok_is_listed (P := P) (w := w) (base := base) F_is_listed T (C8.Fun.binds F_is_listed.fn n_is_listed (ps := ["thing"]) (fun _ _ _ _ _ _ us hl => match us, hl with | [_], _ => rfl)) 
  obtain ⟨f_is_alphabet, fd_is_alphabet, F_is_alphabet, n_is_alphabet⟩ := D_is_alphabet
  have c_is_alphabet := ok_is_alphabet (P := P) (w := w) (base := base) F_is_alphabet T (C8.Fun.binds F_is_alphabet.fn n_is_alphabet (ps := ["thing"]) (fun _ _ _ _ _ _ us hl => match us, hl with | [_], _ => rfl)) 
  obtain ⟨f_check_alphabet, fd_check_alphabet, F_check_alphabet, n_check_alphabet⟩ := D_check_alphabet
  have c_check_alphabet := ok_check_alphabet (P := P) (w := w) (base := base) F_check_alphabet T (C8.Fun.binds F_check_alphabet.fn n_check_alphabet (ps := ["thing"]) (fun _ _ _ _ _ _ us hl => match us, hl with | [_], _ => rfl)) c_is_alphabet
  obtain ⟨f_text_fault, fd_text_fault, F_text_fault, n_text_fault⟩ := D_text_fault
  have c_text_fault := ok_text_fault (P := P) (w := w) (base := base) F_text_fault T (C8.Fun.binds F_text_fault.fn n_text_fault (ps := ["alphabet", "thing", "most"]) (fun _ _ _ _ _ _ us hl => match us, hl with | [_, _, _], _ => rfl)) 
  obtain ⟨f_check_text, fd_check_text, F_check_text, n_check_text⟩ := D_check_text
  have c_check_text := ok_check_text (P := P) (w := w) (base := base) F_check_text T (C8.Fun.binds F_check_text.fn n_check_text (ps := ["alphabet", "thing"]) (fun _ _ _ _ _ _ us hl => match us, hl with | [_, _], _ => rfl)) c_text_fault
  obtain ⟨f_reached_rooms, fd_reached_rooms, F_reached_rooms, n_reached_rooms⟩ := D_reached_rooms
  have c_reached_rooms := ok_reached_rooms (P := P) (w := w) (base := base) F_reached_rooms T (C8.Fun.binds F_reached_rooms.fn n_reached_rooms (ps := ["moves"]) (fun _ _ _ _ _ _ us hl => match us, hl with | [_], _ => rfl)) 
  obtain ⟨f_joint_table, fd_joint_table, F_joint_table, n_joint_table⟩ := D_joint_table
  have c_joint_table := ok_joint_table (P := P) (w := w) (base := base) F_joint_table T (C8.Fun.binds F_joint_table.fn n_joint_table (ps := ["one", "other"]) (fun _ _ _ _ _ _ us hl => match us, hl with | [_, _], _ => rfl)) 
  obtain ⟨f_checked_moves, fd_checked_moves, F_checked_moves, n_checked_moves⟩ := D_checked_moves
  have c_checked_moves := ok_checked_moves (P := P) (w := w) (base := base) F_checked_moves T (C8.Fun.binds F_checked_moves.fn n_checked_moves (ps := ["alphabet", "moves"]) (fun _ _ _ _ _ _ us hl => match us, hl with | [_, _], _ => rfl)) c_is_listed c_is_integer
  obtain ⟨f_checked_good, fd_checked_good, F_checked_good, n_checked_good⟩ := D_checked_good
  have c_checked_good := ok_checked_good (P := P) (w := w) (base := base) F_checked_good T (C8.Fun.binds F_checked_good.fn n_checked_good (ps := ["moves", "good"]) (fun _ _ _ _ _ _ us hl => match us, hl with | [_, _], _ => rfl)) c_is_listed c_is_integer
  obtain ⟨f_Readerd_initd, fd_Readerd_initd, F_Readerd_initd, n_Readerd_initd, M_Readerd_initd⟩ := D_Readerd_initd
  have m_Reader : Mak P w K mg base _ "Reader" C _ [] := ⟨f_Readerd_initd, fd_Readerd_initd, ["self", "alphabet", "moves", "good"], [], M_Readerd_initd, ok_Readerd_initd (P := P) (w := w) (base := base) F_Readerd_initd T c_check_alphabet c_checked_moves c_checked_good, T.mg_Reader, C8.Fun.binds F_Readerd_initd n_Readerd_initd (fun _ _ _ _ _ _ us hl => match us, hl with | [_, _, _, _], _ => rfl), .nil⟩
  obtain ⟨f_room_of, fd_room_of, F_room_of, n_room_of⟩ := D_room_of
  have c_room_of := ok_room_of (P := P) (w := w) (base := base) F_room_of T (C8.Fun.binds F_room_of.fn n_room_of (ps := ["reader", "text"]) (fun _ _ _ _ _ _ us hl => match us, hl with | [_, _], _ => rfl)) 
  obtain ⟨f_good_marks, fd_good_marks, F_good_marks, n_good_marks⟩ := D_good_marks
  have c_good_marks := ok_good_marks (P := P) (w := w) (base := base) F_good_marks T (C8.Fun.binds F_good_marks.fn n_good_marks (ps := ["reader"]) (fun _ _ _ _ _ _ us hl => match us, hl with | [_], _ => rfl)) 
  obtain ⟨f_Readerd_containsd, fd_Readerd_containsd, F_Readerd_containsd, n_Readerd_containsd, O_Readerd_containsd⟩ := D_Readerd_containsd
  have o_in : OwnCal P w K mg base _ C "__contains__" _ := ⟨f_Readerd_containsd, fd_Readerd_containsd, ["self", "text"], ok_Readerd_containsd (P := P) (w := w) (base := base) F_Readerd_containsd T c_check_text c_room_of, O_Readerd_containsd, C8.Fun.binds F_Readerd_containsd n_Readerd_containsd (fun _ _ _ _ _ _ us hl => match us, hl with | [_, _], _ => rfl)⟩
  obtain ⟨f_Readerd_eqd, fd_Readerd_eqd, F_Readerd_eqd, n_Readerd_eqd, O_Readerd_eqd⟩ := D_Readerd_eqd
  have o_eq : OwnCal P w K mg base _ C "__eq__" _ := ⟨f_Readerd_eqd, fd_Readerd_eqd, ["self", "other"], ok_Readerd_eqd (P := P) (w := w) (base := base) F_Readerd_eqd T , O_Readerd_eqd, C8.Fun.binds F_Readerd_eqd n_Readerd_eqd (fun _ _ _ _ _ _ us hl => match us, hl with | [_, _], _ => rfl)⟩
  obtain ⟨f_room_classes, fd_room_classes, F_room_classes, n_room_classes⟩ := D_room_classes
  have c_room_classes := ok_room_classes (P := P) (w := w) (base := base) F_room_classes T (C8.Fun.binds F_room_classes.fn n_room_classes (ps := ["rooms", "moves", "marks"]) (fun _ _ _ _ _ _ us hl => match us, hl with | [_, _, _], _ => rfl)) 
  obtain ⟨f_least_table, fd_least_table, F_least_table, n_least_table⟩ := D_least_table
  have c_least_table := ok_least_table (P := P) (w := w) (base := base) F_least_table T (C8.Fun.binds F_least_table.fn n_least_table (ps := ["moves", "marks"]) (fun _ _ _ _ _ _ us hl => match us, hl with | [_, _], _ => rfl)) c_reached_rooms c_room_classes
  obtain ⟨f_reader_of_table, fd_reader_of_table, F_reader_of_table, n_reader_of_table⟩ := D_reader_of_table
  have c_reader_of_table := ok_reader_of_table (P := P) (w := w) (base := base) F_reader_of_table T (C8.Fun.binds F_reader_of_table.fn n_reader_of_table (ps := ["alphabet", "moves", "marks"]) (fun _ _ _ _ _ _ us hl => match us, hl with | [_, _, _], _ => rfl)) c_least_table m_Reader e_TooMany
  obtain ⟨f_check_same_letters, fd_check_same_letters, F_check_same_letters, n_check_same_letters⟩ := D_check_same_letters
  have c_check_same_letters := ok_check_same_letters (P := P) (w := w) (base := base) F_check_same_letters T (C8.Fun.binds F_check_same_letters.fn n_check_same_letters (ps := ["one", "other"]) (fun _ _ _ _ _ _ us hl => match us, hl with | [_, _], _ => rfl)) e_Unlike
  obtain ⟨f_met, fd_met, F_met, n_met⟩ := D_met
  have c_met := ok_met (P := P) (w := w) (base := base) F_met T (C8.Fun.binds F_met.fn n_met (ps := ["one", "other", "wanted"]) (fun _ _ _ _ _ _ us hl => match us, hl with | [_, _, _], _ => rfl)) c_check_same_letters c_joint_table c_good_marks c_reader_of_table
  obtain ⟨f_Readerd_andd, fd_Readerd_andd, F_Readerd_andd, n_Readerd_andd, cd_Readerd_andd, r_Readerd_andd, hc_Readerd_andd, hm_Readerd_andd, hf_Readerd_andd, hi_Readerd_andd⟩ := D_Readerd_andd
  have o_and : OpM P w K mg base _ C (PySem.dunder Operator.BitAnd.info.2) _ := ⟨⟨f_Readerd_andd, fd_Readerd_andd, ["self", "other"], cd_Readerd_andd, r_Readerd_andd, ok_Readerd_andd (P := P) (w := w) (base := base) F_Readerd_andd T c_met, C8.Fun.binds F_Readerd_andd n_Readerd_andd (fun _ _ _ _ _ _ us hl => match us, hl with | [_, _], _ => rfl), hc_Readerd_andd, hm_Readerd_andd, hf_Readerd_andd, hi_Readerd_andd⟩⟩
  obtain ⟨f_Readerd_ord, fd_Readerd_ord, F_Readerd_ord, n_Readerd_ord, cd_Readerd_ord, r_Readerd_ord, hc_Readerd_ord, hm_Readerd_ord, hf_Readerd_ord, hi_Readerd_ord⟩ := D_Readerd_ord
  have o_or : OpM P w K mg base _ C (PySem.dunder Operator.BitOr.info.2) _ := ⟨⟨f_Readerd_ord, fd_Readerd_ord, ["self", "other"], cd_Readerd_ord, r_Readerd_ord, ok_Readerd_ord (P := P) (w := w) (base := base) F_Readerd_ord T c_met, C8.Fun.binds F_Readerd_ord n_Readerd_ord (fun _ _ _ _ _ _ us hl => match us, hl with | [_, _], _ => rfl), hc_Readerd_ord, hm_Readerd_ord, hf_Readerd_ord, hi_Readerd_ord⟩⟩
  obtain ⟨f_Readerd_subd, fd_Readerd_subd, F_Readerd_subd, n_Readerd_subd, cd_Readerd_subd, r_Readerd_subd, hc_Readerd_subd, hm_Readerd_subd, hf_Readerd_subd, hi_Readerd_subd⟩ := D_Readerd_subd
  have o_sub : OpM P w K mg base _ C (PySem.dunder Operator.Sub.info.2) _ := ⟨⟨f_Readerd_subd, fd_Readerd_subd, ["self", "other"], cd_Readerd_subd, r_Readerd_subd, ok_Readerd_subd (P := P) (w := w) (base := base) F_Readerd_subd T c_met, C8.Fun.binds F_Readerd_subd n_Readerd_subd (fun _ _ _ _ _ _ us hl => match us, hl with | [_, _], _ => rfl), hc_Readerd_subd, hm_Readerd_subd, hf_Readerd_subd, hi_Readerd_subd⟩⟩
  obtain ⟨f_Readerd_invertd, fd_Readerd_invertd, F_Readerd_invertd, n_Readerd_invertd, cd_Readerd_invertd, r_Readerd_invertd, hc_Readerd_invertd, hm_Readerd_invertd, hf_Readerd_invertd, hi_Readerd_invertd⟩ := D_Readerd_invertd
  have o_inv : OpM P w K mg base _ C "__invert__" _ := ⟨⟨f_Readerd_invertd, fd_Readerd_invertd, ["self"], cd_Readerd_invertd, r_Readerd_invertd, ok_Readerd_invertd (P := P) (w := w) (base := base) F_Readerd_invertd T c_reader_of_table, C8.Fun.binds F_Readerd_invertd n_Readerd_invertd (fun _ _ _ _ _ _ us hl => match us, hl with | [_], _ => rfl), hc_Readerd_invertd, hm_Readerd_invertd, hf_Readerd_invertd, hi_Readerd_invertd⟩⟩
  obtain ⟨f_Reader_full, p_Reader_full, fd_Reader_full, r_Reader_full, F_Reader_full, n_Reader_full, kp_Reader_full, sp_Reader_full, ty_Reader_full, rd_Reader_full, fc_Reader_full, rc_Reader_full, hd_Reader_full⟩ := D_Reader_full
  have s_full : StM P w K mg base _ "Reader" C "full" _ := ⟨⟨f_Reader_full, p_Reader_full, fd_Reader_full, ["alphabet"], r_Reader_full, ok_Reader_full (P := P) (w := w) (base := base) F_Reader_full T c_check_alphabet m_Reader, C8.Fun.binds F_Reader_full n_Reader_full (fun _ _ _ _ _ _ us hl => match us, hl with | [_], _ => rfl), T.mg_Reader, kp_Reader_full, sp_Reader_full, ty_Reader_full, rd_Reader_full, fc_Reader_full, rc_Reader_full, hd_Reader_full⟩⟩
  obtain ⟨f_Reader_bare, p_Reader_bare, fd_Reader_bare, r_Reader_bare, F_Reader_bare, n_Reader_bare, kp_Reader_bare, sp_Reader_bare, ty_Reader_bare, rd_Reader_bare, fc_Reader_bare, rc_Reader_bare, hd_Reader_bare⟩ := D_Reader_bare
  have s_bare : StM P w K mg base _ "Reader" C "bare" _ := ⟨⟨f_Reader_bare, p_Reader_bare, fd_Reader_bare, ["alphabet"], r_Reader_bare, ok_Reader_bare (P := P) (w := w) (base := base) F_Reader_bare T c_check_alphabet m_Reader, C8.Fun.binds F_Reader_bare n_Reader_bare (fun _ _ _ _ _ _ us hl => match us, hl with | [_], _ => rfl), T.mg_Reader, kp_Reader_bare, sp_Reader_bare, ty_Reader_bare, rd_Reader_bare, fc_Reader_bare, rc_Reader_bare, hd_Reader_bare⟩⟩
  obtain ⟨f_Reader_room, fd_Reader_room, F_Reader_room, n_Reader_room, me_Reader_room⟩ := D_Reader_room
  have t_room : Met P w K mg base _ C "room" _ [] := ⟨⟨f_Reader_room, fd_Reader_room, ["self", "text"], [], T.cl, me_Reader_room, ok_Reader_room (P := P) (w := w) (base := base) F_Reader_room T c_check_text c_room_of, C8.Fun.binds F_Reader_room n_Reader_room (fun _ _ _ _ _ _ us hl => match us, hl with | [_, _], _ => rfl), .nil⟩⟩
  obtain ⟨f_law_source, fd_law_source, F_law_source, n_law_source⟩ := D_law_source
  have c_law_source := ok_law_source (P := P) (w := w) (base := base) F_law_source T (C8.Fun.binds F_law_source.fn n_law_source (ps := ["script", "place"]) (fun _ _ _ _ _ _ us hl => match us, hl with | [_, _], _ => rfl)) 
  obtain ⟨f_law_alphabet, fd_law_alphabet, F_law_alphabet, n_law_alphabet⟩ := D_law_alphabet
  have c_law_alphabet := ok_law_alphabet (P := P) (w := w) (base := base) F_law_alphabet T (C8.Fun.binds F_law_alphabet.fn n_law_alphabet (ps := ["source"]) (fun _ _ _ _ _ _ us hl => match us, hl with | [_], _ => rfl)) c_law_pick
  obtain ⟨f_law_word, fd_law_word, F_law_word, n_law_word⟩ := D_law_word
  have c_law_word := ok_law_word (P := P) (w := w) (base := base) F_law_word T (C8.Fun.binds F_law_word.fn n_law_word (ps := ["source", "alphabet", "most"]) (fun _ _ _ _ _ _ us hl => match us, hl with | [_, _, _], _ => rfl)) c_law_pick
  obtain ⟨f_law_reader, fd_law_reader, F_law_reader, n_law_reader⟩ := D_law_reader
  have c_law_reader := ok_law_reader (P := P) (w := w) (base := base) F_law_reader T (C8.Fun.binds F_law_reader.fn n_law_reader (ps := ["source", "many", "most"]) (fun _ _ _ _ _ _ us hl => match us, hl with | [_, _, _], _ => rfl)) c_law_pick
  obtain ⟨f_law_room, fd_law_room, F_law_room, n_law_room⟩ := D_law_room
  have c_law_room := ok_law_room (P := P) (w := w) (base := base) F_law_room T (C8.Fun.binds F_law_room.fn n_law_room (ps := ["alphabet", "moves", "text"]) (fun _ _ _ _ _ _ us hl => match us, hl with | [_, _, _], _ => rfl)) 
  obtain ⟨f_law_words, fd_law_words, F_law_words, n_law_words⟩ := D_law_words
  have c_law_words := ok_law_words (P := P) (w := w) (base := base) F_law_words T (C8.Fun.binds F_law_words.fn n_law_words (ps := ["error"]) (fun _ _ _ _ _ _ us hl => match us, hl with | [_], _ => rfl)) 
  obtain ⟨f_law_done, fd_law_done, F_law_done, n_law_done⟩ := D_law_done
  have c_law_done := ok_law_done (P := P) (w := w) (base := base) F_law_done T (C8.Fun.binds F_law_done.fn n_law_done (ps := ["word", "one", "other"]) (fun _ _ _ _ _ _ us hl => match us, hl with | [_, _, _], _ => rfl)) c_law_words o_and o_or o_sub o_inv
  obtain ⟨f_law_due, fd_law_due, F_law_due, n_law_due⟩ := D_law_due
  have c_law_due := ok_law_due (P := P) (w := w) (base := base) F_law_due T (C8.Fun.binds F_law_due.fn n_law_due (ps := ["word", "first", "second"]) (fun _ _ _ _ _ _ us hl => match us, hl with | [_, _, _], _ => rfl)) 
  obtain ⟨f_law_joint, fd_law_joint, F_law_joint, n_law_joint⟩ := D_law_joint
  have c_law_joint := ok_law_joint (P := P) (w := w) (base := base) F_law_joint T (C8.Fun.binds F_law_joint.fn n_law_joint (ps := ["one", "other", "word"]) (fun _ _ _ _ _ _ us hl => match us, hl with | [_, _, _], _ => rfl)) c_law_due
  obtain ⟨f_law_within, fd_law_within, F_law_within, n_law_within⟩ := D_law_within
  have c_law_within := ok_law_within (P := P) (w := w) (base := base) F_law_within T (C8.Fun.binds F_law_within.fn n_law_within (ps := ["alphabet", "told", "text"]) (fun _ _ _ _ _ _ us hl => match us, hl with | [_, _, _], _ => rfl)) c_law_room
  obtain ⟨f_law_is_number, fd_law_is_number, F_law_is_number, n_law_is_number⟩ := D_law_is_number
  have c_law_is_number := ok_law_is_number (P := P) (w := w) (base := base) F_law_is_number T (C8.Fun.binds F_law_is_number.fn n_law_is_number (ps := ["thing", "low", "high"]) (fun _ _ _ _ _ _ us hl => match us, hl with | [_, _, _], _ => rfl)) 
  obtain ⟨f_law_is_reader, fd_law_is_reader, F_law_is_reader, n_law_is_reader⟩ := D_law_is_reader
  have c_law_is_reader := ok_law_is_reader (P := P) (w := w) (base := base) F_law_is_reader T (C8.Fun.binds F_law_is_reader.fn n_law_is_reader (ps := ["reader", "alphabet"]) (fun _ _ _ _ _ _ us hl => match us, hl with | [_, _], _ => rfl)) c_law_is_number
  obtain ⟨f_law_stays, fd_law_stays, F_law_stays, n_law_stays⟩ := D_law_stays
  have c_law_stays := ok_law_stays (P := P) (w := w) (base := base) F_law_stays T (C8.Fun.binds F_law_stays.fn n_law_stays (ps := ["alphabet", "machine", "reader"]) (fun _ _ _ _ _ _ us hl => match us, hl with | [_, _, _], _ => rfl)) c_law_is_reader
  obtain ⟨f_law_in_order, fd_law_in_order, F_law_in_order, n_law_in_order⟩ := D_law_in_order
  have c_law_in_order := ok_law_in_order (P := P) (w := w) (base := base) F_law_in_order T (C8.Fun.binds F_law_in_order.fn n_law_in_order (ps := ["moves"]) (fun _ _ _ _ _ _ us hl => match us, hl with | [_], _ => rfl)) 
  obtain ⟨f_law_changed, fd_law_changed, F_law_changed, n_law_changed⟩ := D_law_changed
  have c_law_changed := ok_law_changed (P := P) (w := w) (base := base) F_law_changed T (C8.Fun.binds F_law_changed.fn n_law_changed (ps := ["source", "told"]) (fun _ _ _ _ _ _ us hl => match us, hl with | [_, _], _ => rfl)) c_law_pick
  obtain ⟨f_law_line, fd_law_line, F_law_line, n_law_line⟩ := D_law_line
  have c_law_line := ok_law_line (P := P) (w := w) (base := base) F_law_line T (C8.Fun.binds F_law_line.fn n_law_line (ps := ["alphabet", "word", "cut"]) (fun _ _ _ _ _ _ us hl => match us, hl with | [_, _, _], _ => rfl)) 
  obtain ⟨f_law_classes, fd_law_classes, F_law_classes, n_law_classes⟩ := D_law_classes
  have c_law_classes := ok_law_classes (P := P) (w := w) (base := base) F_law_classes T (C8.Fun.binds F_law_classes.fn n_law_classes (ps := ["moves", "good", "most"]) (fun _ _ _ _ _ _ us hl => match us, hl with | [_, _, _], _ => rfl)) 
  obtain ⟨f_law_tells, fd_law_tells, F_law_tells, n_law_tells⟩ := D_law_tells
  have c_law_tells := ok_law_tells (P := P) (w := w) (base := base) F_law_tells T (C8.Fun.binds F_law_tells.fn n_law_tells (ps := ["alphabet", "machine", "reader"]) (fun _ _ _ _ _ _ us hl => match us, hl with | [_, _, _], _ => rfl)) c_law_is_reader c_law_classes c_law_in_order
  obtain ⟨f_law_holds, fd_law_holds, F_law_holds, n_law_holds⟩ := D_law_holds
  have c_law_holds := ok_law_holds (P := P) (w := w) (base := base) F_law_holds T (C8.Fun.binds F_law_holds.fn n_law_holds (ps := ["alphabet", "machine", "told"]) (fun _ _ _ _ _ _ us hl => match us, hl with | [_, _, _], _ => rfl)) c_law_classes c_law_tells
  obtain ⟨f_law_some, fd_law_some, F_law_some, n_law_some⟩ := D_law_some
  have c_law_some := ok_law_some (P := P) (w := w) (base := base) F_law_some T (C8.Fun.binds F_law_some.fn n_law_some (ps := ["source", "size", "last"]) (fun _ _ _ _ _ _ us hl => match us, hl with | [_, _, _], _ => rfl)) c_law_pick
  obtain ⟨f_law_rings, fd_law_rings, F_law_rings, n_law_rings⟩ := D_law_rings
  have c_law_rings := ok_law_rings (P := P) (w := w) (base := base) F_law_rings T (C8.Fun.binds F_law_rings.fn n_law_rings (ps := ["source", "many"]) (fun _ _ _ _ _ _ us hl => match us, hl with | [_, _], _ => rfl)) c_law_pick c_law_some
  obtain ⟨f_law_thin, fd_law_thin, F_law_thin, n_law_thin⟩ := D_law_thin
  have c_law_thin := ok_law_thin (P := P) (w := w) (base := base) F_law_thin T (C8.Fun.binds F_law_thin.fn n_law_thin (ps := ["source", "alphabet"]) (fun _ _ _ _ _ _ us hl => match us, hl with | [_, _], _ => rfl)) c_law_pick c_law_word c_law_line
  obtain ⟨f_law_both, fd_law_both, F_law_both, n_law_both⟩ := D_law_both
  have c_law_both := ok_law_both (P := P) (w := w) (base := base) F_law_both T (C8.Fun.binds F_law_both.fn n_law_both (ps := ["source", "second", "alphabet"]) (fun _ _ _ _ _ _ us hl => match us, hl with | [_, _, _], _ => rfl)) c_law_pick c_law_rings c_law_reader c_law_thin c_law_changed
  obtain ⟨f_law_strange, fd_law_strange, F_law_strange, n_law_strange⟩ := D_law_strange
  have c_law_strange := ok_law_strange (P := P) (w := w) (base := base) F_law_strange T (C8.Fun.binds F_law_strange.fn n_law_strange (ps := ["alphabet", "readers", "source"]) (fun _ _ _ _ _ _ us hl => match us, hl with | [_, _, _], _ => rfl)) c_law_reader c_law_done m_Reader
  obtain ⟨f_law_turned, fd_law_turned, F_law_turned, n_law_turned⟩ := D_law_turned
  have c_law_turned := ok_law_turned (P := P) (w := w) (base := base) F_law_turned T (C8.Fun.binds F_law_turned.fn n_law_turned (ps := ["alphabet", "machine", "reader"]) (fun _ _ _ _ _ _ us hl => match us, hl with | [_, _, _], _ => rfl)) c_law_done c_law_tells s_full s_bare o_eq
  obtain ⟨f_law_asked, fd_law_asked, F_law_asked, n_law_asked⟩ := D_law_asked
  have c_law_asked := ok_law_asked (P := P) (w := w) (base := base) F_law_asked T (C8.Fun.binds F_law_asked.fn n_law_asked (ps := ["alphabet", "plains", "readers", "ask", "words"]) (fun _ _ _ _ _ _ us hl => match us, hl with | [_, _, _, _, _], _ => rfl)) c_law_joint c_law_done c_law_holds c_law_due c_law_within o_in t_room
  exact ok_law FL T c_law_source c_law_alphabet c_law_both c_law_word c_law_pick c_law_asked c_law_turned c_law_strange c_law_stays m_Reader
theorem bits_lt {z : Int} {n : Nat} (h : Builtin.Int.intBits z ≤ n) : z.natAbs < 2 ^ n := by
  have e : z.natAbs < 2 ^ (Builtin.Int.intBits z) := by
    unfold Builtin.Int.intBits
    split
    · rename_i h0
      simp_all
    · exact Nat.lt_log2_self
  exact Nat.lt_of_lt_of_le e (Nat.pow_le_pow_right (by decide) h)
theorem walk {l : PySem.W.OpenLaw} {q : Program} {loose : List Str} {XP : (Str → Option Value) → Heap → Prop} {YP : World → Heap → Prop} {d : DefRec} {K : Params → PySem.W.Frag} (hn : l.most = some 63) (hdf : d.params.defaults = [])
    (hY : ∀ (w : World) (h : Heap), YP w h → (K w.params).In h)
    (F : ∀ (w : World) (mg : Str → Option Value) (fa : Addr) (h : Heap), (K w.params).In h → h.Ns mainGlobals mg → mg d.name = some (.ref fa) →
      ∃ fd : FuncData, (∀ (s : Shared) (u : Value), BindsTo s fd ⟨[u], []⟩ [("script", u)]) ∧ ∀ base : Heap, (K w.params).In base → base.Ns mainGlobals mg → FnOk l.prog w (K w.params) mg base C8.CX0 11 fa fd ["script"] (sp_law (K w.params))) :
    PySem.W.WalkO q loose XP YP l.row.toRowW d [] (fun f vs => PySem.call f vs) :=
  L2.walk_ofB (n := 63) (k := 11) (x := "script") (CX := fun _ => C8.CX0) (sp := fun w => sp_law (K w.params)) hn (by decide) hdf ⟨by first | rfl | decide, by decide, by decide⟩ hY F (fun _ _ a ns hl hbits _ hS => ⟨a, ns, rfl, hS, hl, fun n hn => bits_lt (hbits n hn), fun _ => rfl⟩) fun _ _ _ _ _ z => z
end X
open PySem PySem.W PyProof.Rows
set_option maxRecDepth 100000 in
set_option maxHeartbeats 0 in
theorem PySem.Challenge.cw_untoldlots_k09_whole_joins_holds : PySem.Challenge.rw_untoldlots_k09_whole_joins.Holds := by
  w_on; o_law; k_head; (case hw => w_witness2)
  k_fill
  refine X.walk (l := PySem.Challenge.rw_untoldlots_k09_whole_joins) rfl rfl (fun w h Y => PySem.W.kIn_of Y) ?F
  case F =>
    intro w mg fa h KX G hmg
    refine' X.fin (X.txt_mk KX G ?z_int ?z_len ?z_abs ?z_range ?z_tuple ?z_list ?z_isinstance ?z_all ?z_any ?z_enumerate ?z_min ?z_str ?z_bool ?z_set ?z_repr ?z_ValueError ?z_super ?y_MOST_ROOMS ?y_TEXT_LETTERS ?y_SMALL ?aC ?pg ?hd ?po ?sa ?nA ?nM ?nG ?ha ?hn ?htk ?hm ?ne ?kl ?aL ?aWT ?aWI ?aTM ?aUN ?aNN ?eT ?eU) ?d_law_pick ?d_is_integer ?d_is_listed ?d_is_alphabet ?d_check_alphabet ?d_text_fault ?d_check_text ?d_reached_rooms ?d_joint_table ?d_checked_moves ?d_checked_good ?d_room_of ?d_good_marks ?d_room_classes ?d_least_table ?d_reader_of_table ?d_check_same_letters ?d_met ?d_law_source ?d_law_alphabet ?d_law_word ?d_law_reader ?d_law_room ?d_law_words ?d_law_done ?d_law_due ?d_law_joint ?d_law_within ?d_law_is_number ?d_law_is_reader ?d_law_stays ?d_law_in_order ?d_law_changed ?d_law_line ?d_law_classes ?d_law_tells ?d_law_holds ?d_law_some ?d_law_rings ?d_law_thin ?d_law_both ?d_law_strange ?d_law_turned ?d_law_asked ?d_Readerd_initd ?d_Readerd_containsd ?d_Readerd_eqd ?d_Readerd_andd ?d_Readerd_ord ?d_Readerd_subd ?d_Readerd_invertd ?d_Reader_full ?d_Reader_bare ?d_Reader_room ?x_TooMany ?x_Unlike ?d_law
    (case aC => k_is)
    (case z_int => k_is)
    (case z_len => k_is)
    (case z_abs => k_is)
    (case z_range => k_is)
    (case z_tuple => k_is)
    (case z_list => k_is)
    (case z_isinstance => k_is)
    (case z_all => k_is)
    (case z_any => k_is)
    (case z_enumerate => k_is)
    (case z_min => k_is)
    (case z_str => k_is)
    (case z_bool => k_is)
    (case z_set => k_is)
    (case z_repr => k_is)
    (case z_ValueError => k_is)
    (case z_super => k_is)
    (case y_MOST_ROOMS => k_is)
    (case y_TEXT_LETTERS => k_is)
    (case y_SMALL => k_is)
    (case pg => k_is)
    (case hd => k_is)
    (case po => k_is)
    (case sa => k_is)
    (case nA => k_is)
    (case nM => k_is)
    (case nG => k_is)
    (case ha => k_is)
    (case hn => k_is)
    (case htk => k_is)
    (case hm => k_is)
    (case ne => k_is)
    (case aL => k_is)
    (case aWT => k_is)
    (case aWI => k_is)
    (case aTM => k_is)
    (case aUN => k_is)
    (case aNN => k_is)
    (case kl => (first | k_is | rfl | kernel_rfl | decide +kernel))
    (case eT => refine' X.er_mk ?ex ?hg ?hk ?hs ?hd ?ha ?hn ?ht ?hm ?nw ?kv ?kt ?ku ?ko; (case hg => k_is); (case hk => k_is); (case hs => k_is); (case hd => k_is); (case ha => k_is); (case hn => k_is); (case ht => k_is); (case hm => k_is); (case nw => k_is); (case ex => (first | k_is | rfl | kernel_rfl | decide +kernel)); (case kv => (first | k_is | rfl | kernel_rfl | decide +kernel)); (case kt => (first | k_is | rfl | kernel_rfl | decide +kernel)); (case ku => (first | k_is | rfl | kernel_rfl | decide +kernel)); (case ko => (first | k_is | rfl | kernel_rfl | decide +kernel)))
    (case eU => refine' X.er_mk ?ex ?hg ?hk ?hs ?hd ?ha ?hn ?ht ?hm ?nw ?kv ?kt ?ku ?ko; (case hg => k_is); (case hk => k_is); (case hs => k_is); (case hd => k_is); (case ha => k_is); (case hn => k_is); (case ht => k_is); (case hm => k_is); (case nw => k_is); (case ex => (first | k_is | rfl | kernel_rfl | decide +kernel)); (case kv => (first | k_is | rfl | kernel_rfl | decide +kernel)); (case kt => (first | k_is | rfl | kernel_rfl | decide +kernel)); (case ku => (first | k_is | rfl | kernel_rfl | decide +kernel)); (case ko => (first | k_is | rfl | kernel_rfl | decide +kernel)))
    (case d_law_pick => refine' X.dx_mk KX G ?a ?l ?c ?k; (case a => k_is); (case l => k_is); (case c => k_is); (case k => k_is))
    (case d_is_integer => refine' X.dx_mk KX G ?a ?l ?c ?k; (case a => k_is); (case l => k_is); (case c => k_is); (case k => k_is))
    (case d_is_listed => refine' X.dx_mk KX G ?a ?l ?c ?k; (case a => k_is); (case l => k_is); (case c => k_is); (case k => k_is))
    (case d_is_alphabet => refine' X.dx_mk KX G ?a ?l ?c ?k; (case a => k_is); (case l => k_is); (case c => k_is); (case k => k_is))
    (case d_check_alphabet => refine' X.dx_mk KX G ?a ?l ?c ?k; (case a => k_is); (case l => k_is); (case c => k_is); (case k => k_is))
    (case d_text_fault => refine' X.dx_mk KX G ?a ?l ?c ?k; (case a => k_is); (case l => k_is); (case c => k_is); (case k => k_is))
    (case d_check_text => refine' X.dx_mk KX G ?a ?l ?c ?k; (case a => k_is); (case l => k_is); (case c => k_is); (case k => k_is))
    (case d_reached_rooms => refine' X.dx_mk KX G ?a ?l ?c ?k; (case a => k_is); (case l => k_is); (case c => k_is); (case k => k_is))
    (case d_joint_table => refine' X.dx_mk KX G ?a ?l ?c ?k; (case a => k_is); (case l => k_is); (case c => k_is); (case k => k_is))
    (case d_checked_moves => refine' X.dx_mk KX G ?a ?l ?c ?k; (case a => k_is); (case l => k_is); (case c => k_is); (case k => k_is))
    (case d_checked_good => refine' X.dx_mk KX G ?a ?l ?c ?k; (case a => k_is); (case l => k_is); (case c => k_is); (case k => k_is))
    (case d_room_of => refine' X.dx_mk KX G ?a ?l ?c ?k; (case a => k_is); (case l => k_is); (case c => k_is); (case k => k_is))
    (case d_good_marks => refine' X.dx_mk KX G ?a ?l ?c ?k; (case a => k_is); (case l => k_is); (case c => k_is); (case k => k_is))
    (case d_room_classes => refine' X.dx_mk KX G ?a ?l ?c ?k; (case a => k_is); (case l => k_is); (case c => k_is); (case k => k_is))
    (case d_least_table => refine' X.dx_mk KX G ?a ?l ?c ?k; (case a => k_is); (case l => k_is); (case c => k_is); (case k => k_is))
    (case d_reader_of_table => refine' X.dx_mk KX G ?a ?l ?c ?k; (case a => k_is); (case l => k_is); (case c => k_is); (case k => k_is))
    (case d_check_same_letters => refine' X.dx_mk KX G ?a ?l ?c ?k; (case a => k_is); (case l => k_is); (case c => k_is); (case k => k_is))
    (case d_met => refine' X.dx_mk KX G ?a ?l ?c ?k; (case a => k_is); (case l => k_is); (case c => k_is); (case k => k_is))
    (case d_law_source => refine' X.dx_mk KX G ?a ?l ?c ?k; (case a => k_is); (case l => k_is); (case c => k_is); (case k => k_is))
    (case d_law_alphabet => refine' X.dx_mk KX G ?a ?l ?c ?k; (case a => k_is); (case l => k_is); (case c => k_is); (case k => k_is))
    (case d_law_word => refine' X.dx_mk KX G ?a ?l ?c ?k; (case a => k_is); (case l => k_is); (case c => k_is); (case k => k_is))
    (case d_law_reader => refine' X.dx_mk KX G ?a ?l ?c ?k; (case a => k_is); (case l => k_is); (case c => k_is); (case k => k_is))
    (case d_law_room => refine' X.dx_mk KX G ?a ?l ?c ?k; (case a => k_is); (case l => k_is); (case c => k_is); (case k => k_is))
    (case d_law_words => refine' X.dx_mk KX G ?a ?l ?c ?k; (case a => k_is); (case l => k_is); (case c => k_is); (case k => k_is))
    (case d_law_done => refine' X.dx_mk KX G ?a ?l ?c ?k; (case a => k_is); (case l => k_is); (case c => k_is); (case k => k_is))
    (case d_law_due => refine' X.dx_mk KX G ?a ?l ?c ?k; (case a => k_is); (case l => k_is); (case c => k_is); (case k => k_is))
    (case d_law_joint => refine' X.dx_mk KX G ?a ?l ?c ?k; (case a => k_is); (case l => k_is); (case c => k_is); (case k => k_is))
    (case d_law_within => refine' X.dx_mk KX G ?a ?l ?c ?k; (case a => k_is); (case l => k_is); (case c => k_is); (case k => k_is))
    (case d_law_is_number => refine' X.dx_mk KX G ?a ?l ?c ?k; (case a => k_is); (case l => k_is); (case c => k_is); (case k => k_is))
    (case d_law_is_reader => refine' X.dx_mk KX G ?a ?l ?c ?k; (case a => k_is); (case l => k_is); (case c => k_is); (case k => k_is))
    (case d_law_stays => refine' X.dx_mk KX G ?a ?l ?c ?k; (case a => k_is); (case l => k_is); (case c => k_is); (case k => k_is))
    (case d_law_in_order => refine' X.dx_mk KX G ?a ?l ?c ?k; (case a => k_is); (case l => k_is); (case c => k_is); (case k => k_is))
    (case d_law_changed => refine' X.dx_mk KX G ?a ?l ?c ?k; (case a => k_is); (case l => k_is); (case c => k_is); (case k => k_is))
    (case d_law_line => refine' X.dx_mk KX G ?a ?l ?c ?k; (case a => k_is); (case l => k_is); (case c => k_is); (case k => k_is))
    (case d_law_classes => refine' X.dx_mk KX G ?a ?l ?c ?k; (case a => k_is); (case l => k_is); (case c => k_is); (case k => k_is))
    (case d_law_tells => refine' X.dx_mk KX G ?a ?l ?c ?k; (case a => k_is); (case l => k_is); (case c => k_is); (case k => k_is))
    (case d_law_holds => refine' X.dx_mk KX G ?a ?l ?c ?k; (case a => k_is); (case l => k_is); (case c => k_is); (case k => k_is))
    (case d_law_some => refine' X.dx_mk KX G ?a ?l ?c ?k; (case a => k_is); (case l => k_is); (case c => k_is); (case k => k_is))
    (case d_law_rings => refine' X.dx_mk KX G ?a ?l ?c ?k; (case a => k_is); (case l => k_is); (case c => k_is); (case k => k_is))
    (case d_law_thin => refine' X.dx_mk KX G ?a ?l ?c ?k; (case a => k_is); (case l => k_is); (case c => k_is); (case k => k_is))
    (case d_law_both => refine' X.dx_mk KX G ?a ?l ?c ?k; (case a => k_is); (case l => k_is); (case c => k_is); (case k => k_is))
    (case d_law_strange => refine' X.dx_mk KX G ?a ?l ?c ?k; (case a => k_is); (case l => k_is); (case c => k_is); (case k => k_is))
    (case d_law_turned => refine' X.dx_mk KX G ?a ?l ?c ?k; (case a => k_is); (case l => k_is); (case c => k_is); (case k => k_is))
    (case d_law_asked => refine' X.dx_mk KX G ?a ?l ?c ?k; (case a => k_is); (case l => k_is); (case c => k_is); (case k => k_is))
    (case d_Readerd_initd => refine' X.ix_mk ?mk ?a ?i ?kc ?l ?c; (case a => k_is); (case mk => k_is); (case i => k_is); (case kc => k_is); (case l => k_is); (case c => k_is))
    (case d_Readerd_containsd => refine' X.mx_mk ?a ?i ?l ?c; (case a => k_is); (case i => k_is); (case l => k_is); (case c => k_is))
    (case d_Readerd_eqd => refine' X.mx_mk ?a ?i ?l ?c; (case a => k_is); (case i => k_is); (case l => k_is); (case c => k_is))
    (case d_Readerd_andd => refine' X.ox_mk ?a ?i ?l ?c ?xhc ?xhm; (case a => k_is); (case i => k_is); (case l => k_is); (case c => k_is); (case xhc => k_is); (case xhm => rfl))
    (case d_Readerd_ord => refine' X.ox_mk ?a ?i ?l ?c ?xhc ?xhm; (case a => k_is); (case i => k_is); (case l => k_is); (case c => k_is); (case xhc => k_is); (case xhm => rfl))
    (case d_Readerd_subd => refine' X.ox_mk ?a ?i ?l ?c ?xhc ?xhm; (case a => k_is); (case i => k_is); (case l => k_is); (case c => k_is); (case xhc => k_is); (case xhm => rfl))
    (case d_Readerd_invertd => refine' X.ox_mk ?a ?i ?l ?c ?xhc ?xhm; (case a => k_is); (case i => k_is); (case l => k_is); (case c => k_is); (case xhc => k_is); (case xhm => rfl))
    (case d_Reader_full => refine' X.st_mk ?fc ?rc ?l ?c ?kp ?sp ?ty ?rd ?hd; (case fc => k_is); (case rc => k_is); (case l => k_is); (case c => k_is); (case kp => k_is); (case sp => k_is); (case ty => k_is); (case rd => k_is); (case hd => rfl))
    (case d_Reader_bare => refine' X.st_mk ?fc ?rc ?l ?c ?kp ?sp ?ty ?rd ?hd; (case fc => k_is); (case rc => k_is); (case l => k_is); (case c => k_is); (case kp => k_is); (case sp => k_is); (case ty => k_is); (case rd => k_is); (case hd => rfl))
    (case d_Reader_room => refine' X.tx_mk ?a ?i ?kp ?l ?c; (case a => k_is); (case i => k_is); (case kp => k_is); (case l => k_is); (case c => k_is))
    (case x_TooMany => refine' X.ex_mk X.ib_TooMany KX G ?aC ?fi ?tI ?lk ?hcd ?lc ?hvs ?hfile ?htop ?lcc ?hsup ?ox ?rv ?sa ?exC ?tyC ?kC ?cD ?sb ?su ?sB ?nf ?op; (case aC => k_is); (case fi => k_is); (case tI => k_is); (case lk => k_is); (case hcd => k_is); (case lc => k_is); (case hvs => rfl); (case hfile => (first | k_is | rfl | kernel_rfl | decide +kernel)); (case htop => (first | k_is | rfl | kernel_rfl | decide +kernel)); (case lcc => k_is); (case hsup => k_is); (case ox => k_is); (case rv => (first | k_is | rfl | kernel_rfl | decide +kernel)); (case sa => k_is); (case exC => k_is); (case tyC => k_is); (case kC => k_is); (case cD => k_is); (case sb => k_is); (case su => (first | k_is | rfl | kernel_rfl | decide +kernel)); (case sB => k_is); (case nf => k_is); (case op => k_is))
    (case x_Unlike => refine' X.ex_mk X.ib_Unlike KX G ?aC ?fi ?tI ?lk ?hcd ?lc ?hvs ?hfile ?htop ?lcc ?hsup ?ox ?rv ?sa ?exC ?tyC ?kC ?cD ?sb ?su ?sB ?nf ?op; (case aC => k_is); (case fi => k_is); (case tI => k_is); (case lk => k_is); (case hcd => k_is); (case lc => k_is); (case hvs => rfl); (case hfile => (first | k_is | rfl | kernel_rfl | decide +kernel)); (case htop => (first | k_is | rfl | kernel_rfl | decide +kernel)); (case lcc => k_is); (case hsup => k_is); (case ox => k_is); (case rv => (first | k_is | rfl | kernel_rfl | decide +kernel)); (case sa => k_is); (case exC => k_is); (case tyC => k_is); (case kC => k_is); (case cD => k_is); (case sb => k_is); (case su => (first | k_is | rfl | kernel_rfl | decide +kernel)); (case sB => k_is); (case nf => k_is); (case op => k_is))
    (case d_law => refine' X.lx_mk KX G hmg ?a ?l ?c; (case a => k_is); (case l => k_is); (case c => k_is))
#print axioms PySem.Challenge.cw_untoldlots_k09_whole_joins_holds
