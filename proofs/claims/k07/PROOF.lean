import PyProof.Rows.All
import Wide.All
import OpenK.AllK
import Wide.FinOn
import HandS.ForMost
import HandS.IsInst
import HandS.Codes
import HandS.Wide
import HandS.WideBits
import HandS.Conv
import HandS.TupAny
import HandS.StrMore
import HandS.WordsExc
import KE.GoesEnum
import KE.KDictKeyed
import KE.KDictDisplayH
import HandS.OwnEq
import PyProof.InstEq
import HandS.Replace
import HandS.Steps
import HandS.Zip
import HandS.Deep
import HandS.More
import KE.KSuper
import KE.KExcSuper
import KE.KExcIs
import KE.KIsAll
import HandS.ExcInit
import HandS.ExcField
import HandS.ExcIs
import HandS.Nested
import HandS.RaiseMore
import HandS.FStr
import HandS.HotCalls
import HandS.SuiteRaise
import PySem.Challenge.RW_untoldlots_k07_reader_kept
import HandS.SetFor
import KE.DataMinMax
import HandS.Style
import PyProof.ReprRoads
import HandS.EndBits
import PyProof.InstSpecial
import HandS.NoneIn
set_option Elab.async false
set_option linter.all false
set_option maxRecDepth 100000
namespace U
open PySem PySem.Spec PyProof.Rows L2

section
variable {K : PySem.W.Frag} {D : Ends} {σ : L2.St} {H : Hp} {Q : VK} {QB : Bool → Hp → Prop} {QL : List V → Hp → Prop} {QS : L2.St → Hp → Prop} {QH : Hp → Prop}
theorem i_var {i : Nat} {v : V} (e : σ[i]? = some (some v)) (q : Q v H) : tVar i σ H Q := ⟨v, e, q⟩
theorem i_C {v : V} (q : Q v H) : tC v σ H Q := q
theorem i_seq {t u : TS} (q : t { D with nx := u D } σ H) : tSeq t u D σ H := q
theorem i_next (q : D.nx σ H) : tNext D σ H := q
theorem i_asg {te : TE} {g : TG} (q : te σ H fun x H1 => g x σ H1 D.nx) : tAsg te g D σ H := q
theorem i_name {i : Nat} {v : V} {σ' : L2.St} (e : σ.set i (some v) = σ') (q : QS σ' H) : gName i v σ H QS := by
  subst e
  exact q
theorem i_sub {to ti : TE} {t : TSet} {v : V} (q : to σ H fun o H1 => ti σ H1 fun i H2 => t o i v H2 fun H3 => QS σ H3) : gSub to ti t v σ H QS := q
theorem i_setL {p : Addr} {xs : List V} {k : Int} {j : Nat} {v : V} (h : H p = some (.lst xs)) (hj : ixN xs.length k = some j) (q : QH (upd H p (.lst (xs.set j v)))) : rSetL (.ref p) (.int k) v H QH := ⟨p, xs, k, j, rfl, rfl, h, hj, q⟩
theorem i_ret {te : TE} (q : te σ H D.rt) : tRet te D σ H := q
theorem i_retN (q : D.rt .non H) : tRetN D σ H := q
theorem i_drop {te : TE} (q : te σ H fun _ H1 => D.nx σ H1) : tDrop te D σ H := q
theorem i_ifS {c : TT} {t u : TS} (q : c σ H fun b H1 => if b = true then t D σ H1 else u D σ H1) : tIfS c t u D σ H := q
theorem i_test {t : TE} (q : t σ H fun x H' => ∃ k, x = .bl k ∧ QB k H') : tTest t σ H QB := q
theorem i_tB {t : TE} (q : t σ H fun x H' => ∃ k, x = .bl k ∧ QB k H') : tB t σ H QB := q
theorem i_op {r : R2} {ta tb : TE} (q : ta σ H fun x H1 => tb σ H1 fun y H2 => r x y H2 Q) : tOp r ta tb σ H Q := q
theorem i_un {r : V → Hp → VK → Prop} {ta : TE} (q : ta σ H fun x H1 => r x H1 Q) : tUn r ta σ H Q := q
theorem i_rI0 {g : Int → Int → V} {i j : Int} (q : Q (g i j) H) : rI0 g (.int i) (.int j) H Q := ⟨i, j, rfl, rfl, q⟩
theorem i_rI {C : Int → Int → Prop} {g : Int → Int → V} {i j : Int} (c : C i j) (q : Q (g i j) H) : rI C g (.int i) (.int j) H Q := ⟨i, j, rfl, rfl, c, q⟩
theorem i_rU {g : Int → V} {i : Int} (q : Q (g i) H) : rU g (.int i) H Q := ⟨i, rfl, q⟩
theorem i_eqI {i j : Int} (q : Q (.bl (decide (i = j))) H) : rEq (.int i) (.int j) H Q := by
  refine ⟨rfl, ?_⟩
  have e : decide (V.int i = V.int j) = decide (i = j) := by simp
  rw [e]
  exact q
theorem i_neI {i j : Int} (q : Q (.bl (!decide (i = j))) H) : rNe (.int i) (.int j) H Q := by
  refine ⟨rfl, ?_⟩
  have e : decide (V.int i = V.int j) = decide (i = j) := by simp
  rw [e]
  exact q
theorem i_eqS {i j : Str} (q : Q (.bl (decide (i = j))) H) : rEq (.str i) (.str j) H Q := by
  refine ⟨rfl, ?_⟩
  have e : decide (V.str i = V.str j) = decide (i = j) := by simp
  rw [e]
  exact q
theorem i_neS {i j : Str} (q : Q (.bl (!decide (i = j))) H) : rNe (.str i) (.str j) H Q := by
  refine ⟨rfl, ?_⟩
  have e : decide (V.str i = V.str j) = decide (i = j) := by simp
  rw [e]
  exact q
theorem i_eqB {i j : Bool} (q : Q (.bl (decide (i = j))) H) : rEq (.bl i) (.bl j) H Q := by
  refine ⟨rfl, ?_⟩
  have e : decide (V.bl i = V.bl j) = decide (i = j) := by simp
  rw [e]
  exact q
theorem i_neB {i j : Bool} (q : Q (.bl (!decide (i = j))) H) : rNe (.bl i) (.bl j) H Q := by
  refine ⟨rfl, ?_⟩
  have e : decide (V.bl i = V.bl j) = decide (i = j) := by simp
  rw [e]
  exact q
theorem ex_bl {b : Bool} {P : Bool → Prop} (h : P b) : ∃ k, V.bl b = .bl k ∧ P k := ⟨b, rfl, h⟩
theorem i_ixL {p : Addr} {xs : List V} {i : Int} {v : V} (h : H p = some (.lst xs)) (e : atI xs i = some v) (q : Q v H) : rIx K (.ref p) (.int i) H Q := .inl ⟨p, xs, i, v, rfl, rfl, SqL.of h, e, q⟩
theorem i_ixLs {p : Addr} {xs : List V} {i : Int} {v : V} (h : SqL K H p xs) (e : atI xs i = some v) (q : Q v H) : rIx K (.ref p) (.int i) H Q := .inl ⟨p, xs, i, v, rfl, rfl, h, e, q⟩
theorem i_ixT {p : Addr} {xs : List V} {i : Int} {v : V} (h : H p = some (.tup xs)) (e : atI xs i = some v) (q : Q v H) : rIx K (.ref p) (.int i) H Q := .inr (.inl ⟨p, xs, i, v, rfl, rfl, SqT.of h, e, q⟩)
theorem i_ixS {z : Str} {i : Int} {c : Nat} (h : z.length ≤ sizeLine) (e : atI z.cps.toList i = some c) (q : Q (.str ⟨#[c]⟩) H) : rIx K (.str z) (.int i) H Q := .inr (.inr ⟨z, i, c, rfl, rfl, h, e, q⟩)
theorem i_CB {r : List V → Hp → VK → Prop} {t : TA} (q : t σ H fun vs H1 => r vs H1 Q) : tCB r t σ H Q := q
theorem i_nil (q : QL [] H) : tNil σ H QL := q
theorem i_cons {ta : TE} {tr : TA} (q : ta σ H fun x H1 => tr σ H1 fun xs H2 => QL (x :: xs) H2) : tCons ta tr σ H QL := q
theorem i_call {sp : Sp} {E : XK} {t : TA} (q : t σ H fun vs H1 => sp vs H1 Q E) : tCall sp [] E t σ H Q := by
  refine cast ?_ q
  unfold tCall
  simp only [List.append_nil]
theorem i_and {t u : TT} (q : t σ H fun c H1 => if c = true then u σ H1 QB else QB false H1) : tAnd t u σ H QB := q
theorem i_or {t u : TT} (q : t σ H fun c H1 => if c = true then QB true H1 else u σ H1 QB) : tOr t u σ H QB := q
theorem i_not {t : TT} (q : t σ H fun c H1 => QB (!c) H1) : tNot t σ H QB := q
theorem i_andV {ta tb : TE} (q : ta σ H fun x H1 => ∃ c, x = .bl c ∧ if c = true then tb σ H1 Q else Q (.bl false) H1) : tAndV ta tb σ H Q := q
theorem i_orV {ta tb : TE} (q : ta σ H fun x H1 => ∃ c, x = .bl c ∧ if c = true then Q (.bl true) H1 else tb σ H1 Q) : tOrV ta tb σ H Q := q
theorem i_notV {ta : TE} (q : ta σ H fun x H1 => ∃ c, x = .bl c ∧ Q (.bl (!c)) H1) : tNotV ta σ H Q := q
theorem i_if {c : TT} {ta tb : TE} (q : c σ H fun b H1 => if b = true then ta σ H1 Q else tb σ H1 Q) : tIf c ta tb σ H Q := q
theorem i_tup {t : TA} (q : t σ H fun xs H1 => xs.length ≤ sizeLine ∧ ∀ p, H1 p = none → Q (.ref p) (upd H1 p (.tup xs))) : tTup t σ H Q := q
theorem i_lst {t : TA} (q : t σ H fun xs H1 => xs.length ≤ sizeLine ∧ ∀ p, H1 p = none → Q (.ref p) (upd H1 p (.lst xs))) : tLst t σ H Q := q
theorem ex_int1 {n : Int} {P : Int → Prop} {R : Prop} (h : P n) : (∃ i, [V.int n] = [.int i] ∧ P i) ∨ R := .inl ⟨n, rfl, h⟩
theorem ex_int {n : Int} {P : Int → Prop} (h : P n) : ∃ i, [V.int n] = [.int i] ∧ P i := ⟨n, rfl, h⟩
theorem i_len {x : V} {n : Nat} (e : LenV K x H n) (q : Q (.int n) H) : (fun xs H Q => ∃ x n, xs = [x] ∧ LenV K x H n ∧ Q (.int n) H : List V → Hp → VK → Prop) [x] H Q := ⟨x, n, rfl, e, q⟩
theorem i_fld {ta : TE} {f : Str} (q : ta σ H fun x H1 => ∃ a C dx fs v, x = .ref a ∧ H1 a = some (.ins C dx fs) ∧ Cls K C ∧ NoAttr K C f ∧ fs.lookup f = some v ∧ Q v H1) : tFld K ta f σ H Q := q
theorem i_bm {T : String} {r : V → List V → Hp → VK → Prop} {to : TE} {t : TA} (q : to σ H fun x H1 => tyV K T x H1 ∧ t σ H1 fun xs H2 => r x xs H2 Q) : tBM K T r to t σ H Q := q
theorem iteD {c : Prop} [Decidable c] {A B : Prop} (h1 : c → A) (h2 : ¬ c → B) : if decide c = true then A else B := by
  by_cases h : c
  · rw [decide_eq_true h, if_pos rfl]
    exact h1 h
  · rw [decide_eq_false h, if_neg Bool.false_ne_true]
    exact h2 h
theorem iteDN {c : Prop} [Decidable c] {A B : Prop} (h1 : ¬ c → A) (h2 : c → B) : if (!decide c) = true then A else B := by
  by_cases h : c
  · rw [decide_eq_true h, if_neg (by decide)]
    exact h2 h
  · rw [decide_eq_false h, if_pos (by decide)]
    exact h1 h
theorem iteB {b : Bool} {A B : Prop} (h1 : b = true → A) (h2 : b = false → B) : if b = true then A else B := by
  cases b with
  | true => rw [if_pos rfl]; exact h1 rfl
  | false => rw [if_neg Bool.false_ne_true]; exact h2 rfl
end
abbrev AS := Addr → Prop
/-- all but the objects of T stands -/
def Kp (T : AS) (H H' : Hp) : Prop := ∀ b o, ¬ T b → H b = some o → H' b = some o
/-- what is tracked -/
def Old (H : Hp) : AS := fun b => ∃ o, H b = some o
theorem Kp.refl {T : AS} {H : Hp} : Kp T H H := fun _ _ _ h => h
theorem Kp.trans {T : AS} {H H1 H2 : Hp} (a : Kp T H H1) (b : Kp T H1 H2) : Kp T H H2 := fun c o n h => b c o n (a c o n h)
theorem Kp.mono {T T' : AS} {H H' : Hp} (k : Kp T H H') (h : ∀ a, T a → T' a) : Kp T' H H' := fun b o n e => k b o (fun z => n (h b z)) e
theorem Kp.of_same {T : AS} {H H' : Hp} (s : Same H H') : Kp T H H' := fun b o _ e => s b o e
theorem Kp.same {H H' : Hp} (k : Kp (fun _ => False) H H') : Same H H' := fun b o e => k b o (fun z => z) e
theorem Kp.laid {T : AS} {H : Hp} {p : Addr} {o : HO} (h : H p = none) : Kp T H (upd H p o) := fun b u _ e => by
  rw [upd_ne (ne_of_none e h)]
  exact e
theorem Kp.wrote {T : AS} {H : Hp} {p : Addr} {o : HO} (h : T p) : Kp T H (upd H p o) := fun b u n e => by
  rw [upd_ne (fun z => n (by rw [z]; exact h))]
  exact e
theorem same_laid {H : Hp} {p : Addr} {o : HO} (h : H p = none) : Same H (upd H p o) := fun b u e => by
  rw [upd_ne (ne_of_none e h)]
  exact e
theorem Old.none {H : Hp} {p : Addr} (h : H p = none) : ¬ Old H p := fun ⟨o, e⟩ => by
  rw [h] at e
  cases e
/-- a source of draws -/
def Src (H : Hp) (a : Addr) : Prop := ∃ x y z : Int, H a = some (.lst [.int x, .int y, .int z])
def Srcs (S : AS) (H : Hp) : Prop := ∀ a, S a → Src H a
/-- from H to H': the sources stand, all else that stood stands -/
structure Ev (S : AS) (H H' : Hp) : Prop where
  kp : Kp S H H'
  src : Srcs S H'
theorem Srcs.old {S : AS} {H : Hp} (s : Srcs S H) {a : Addr} (h : S a) : Old H a := let ⟨_, _, _, e⟩ := s a h; ⟨_, e⟩
theorem Srcs.notin {S : AS} {H : Hp} (s : Srcs S H) {p : Addr} (h : H p = none) : ¬ S p := fun z => Old.none h (s.old z)
theorem Srcs.nottup {S : AS} {H : Hp} (s : Srcs S H) {p : Addr} {xs : List V} (h : H p = some (.tup xs)) : ¬ S p := fun z => by
  obtain ⟨x, y, w, e⟩ := s p z
  rw [h] at e
  cases e
theorem Srcs.notins {S : AS} {H : Hp} (s : Srcs S H) {p C dx : Addr} {fs : List (Str × V)} (h : H p = some (.ins C dx fs)) : ¬ S p := fun z => by
  obtain ⟨x, y, w, e⟩ := s p z
  rw [h] at e
  cases e
theorem Ev.free {S : AS} {H H' : Hp} (e : Ev S H H') {p : Addr} (h : H' p = none) : H p = none := by
  cases q : H p with
  | none => rfl
  | some o =>
    have z := e.kp p o (e.src.notin h) q
    rw [h] at z
    cases z
theorem Ev.refl {S : AS} {H : Hp} (s : Srcs S H) : Ev S H H := ⟨.refl, s⟩
theorem Ev.trans {S : AS} {H H1 H2 : Hp} (a : Ev S H H1) (b : Ev S H1 H2) : Ev S H H2 := ⟨a.kp.trans b.kp, b.src⟩
theorem Srcs.kp {S : AS} {H H' : Hp} (s : Srcs S H) (k : Same H H') : Srcs S H' := fun a ha => by
  obtain ⟨x, y, z, e⟩ := s a ha
  exact ⟨x, y, z, k _ _ e⟩
theorem Ev.of_same {S : AS} {H H' : Hp} (s : Srcs S H) (k : Same H H') : Ev S H H' := ⟨.of_same k, s.kp k⟩
theorem Ev.laid {S : AS} {H : Hp} {p : Addr} {o : HO} (s : Srcs S H) (h : H p = none) : Ev S H (upd H p o) := .of_same s (same_laid h)
theorem Ev.wrote {S : AS} {H : Hp} {p : Addr} {x y z : Int} (s : Srcs S H) (h : S p) : Ev S H (upd H p (.lst [.int x, .int y, .int z])) := ⟨.wrote h, fun a ha => by
  by_cases e : a = p
  · exact ⟨x, y, z, by rw [e]; exact upd_same⟩
  · obtain ⟨x', y', z', q⟩ := s a ha
    exact ⟨x', y', z', by rw [upd_ne e]; exact q⟩⟩
theorem Ev.old {S : AS} {H H' : Hp} (e : Ev S H H') (s : Srcs S H) {a : Addr} (h : Old H a) : Old H' a := by
  obtain ⟨o, q⟩ := h
  by_cases z : S a
  · exact e.src.old z
  · exact ⟨o, e.kp a o z q⟩
end U
namespace U
open PySem PySem.Spec PyProof.Rows L2
section
variable {X : Cx} {tg : Expr}
def iSeq (K : PySem.W.Frag) (tl : TE) : TI := fun σ H R => tl σ H fun x H1 => ∃ a, x = .ref a ∧ (((∃ xs, SqL K H1 a xs) ∧ R (Itl K a) H1) ∨ ((∃ xs, SqT K H1 a xs) ∧ R (Itt K a) H1))
theorem pi_seq {l : Expr} {tl : TE} (hl : PE X l tl) : PI X tg l (iSeq X.K tl) := by
  refine ⟨fun pins s σ H R I h => ?_⟩
  refine thn (hl.run pins s σ H _ I h) fun v s1 ⟨x, H1, I1, r1, q1⟩ => ?_
  obtain ⟨a, e, q1⟩ := q1
  subst e
  cases r1
  rcases q1 with ⟨⟨xs, hq⟩, q⟩ | ⟨⟨xs, hq⟩, q⟩
  · obtain ⟨its, rv, p, hz⟩ := I1.list hq
    refine wpAny_pyIter_list p.isList ?_
    refine ⟨s1.heap.objs.size, [s1.heap.objs.size], _, _, H1, rfl, I1.kept (t' := s1.toks) fun b o e => Heap.get?_push_of_some _ e, turn_list a _, ⟨_, Heap.get?_push_size _ rfl, rfl, rfl⟩, fun b hb => ?_, q⟩
    have e : b = s1.heap.objs.size := by simpa using hb
    subst e
    exact I1.fpOk (Nat.le_refl _) (I1.hok.fresh (Nat.le_refl _))
  · obtain ⟨its, rv, p, hz⟩ := I1.tuple hq
    refine wpAny_pyIter_tuple (show s1.heap.IsTuple a its.toArray from p) ?_
    refine ⟨s1.heap.objs.size, [s1.heap.objs.size], _, _, H1, rfl, I1.kept (t' := s1.toks) fun b o e => Heap.get?_push_of_some _ e, turn_tuple a _, ⟨_, Heap.get?_push_size _ rfl, rfl, rfl⟩, fun b hb => ?_, q⟩
    have e : b = s1.heap.objs.size := by simpa using hb
    subst e
    exact I1.fpOk (Nat.le_refl _) (I1.hok.fresh (Nat.le_refl _))
/-- enumerate(tuple) -/
def IteT (K : PySem.W.Frag) (a : Addr) : It :=
  ⟨fun i H => ∃ (xs : List V) (x : V), SqT K H a xs ∧ xs[i]? = some x, fun i H v H' => ∃ T x, v = .ref T ∧ H T = none ∧ H' = upd H T (.tup [.int (i : Nat), x]) ∧ ∀ xs, SqT K H a xs → xs[i]? = some x, fun i H => ∃ xs : List V, SqT K H a xs ∧ xs.length = i⟩
theorem turn_enumT {P : Program} {w : World} {K : PySem.W.Frag} {elts : List Expr} {kk : Nat} {tpos : Pos} (a e it : Addr) :
    Turn P w K (.Tuple elts kk tpos) (IteT K a) [e, it] e (fun i h => (∃ old, IsEnum h e it ((i : Nat) : Int) old) ∧ h.IsTupleIter it a i ∧ e ≠ it) where
  mem := by simp
  obj := fun i h st b hb => by
    obtain ⟨⟨old, he⟩, ⟨o, ho, hc, hd⟩, _⟩ := st
    have e' : b = e ∨ b = it := by simpa using hb
    rcases e' with z | z
    · rw [z]; exact ⟨_, he, fun v q => nomatch q⟩
    · rw [z]; exact ⟨o, ho, fun v q => by rw [hd] at q; cases q⟩
  keep := fun i h h' st k => let ⟨⟨old, he⟩, hi, hne⟩ := st; ⟨⟨old, k e (by simp) _ he⟩, hi.at fun o q => k it (by simp) o q, hne⟩
  item := by
    intro X hP hw hK hc i pins s σ H E I hf st hg
    subst hP hw hK
    obtain ⟨⟨old, he⟩, hit, hne⟩ := st
    obtain ⟨xs, x, hq, hx⟩ := hg
    obtain ⟨its, rv, p, hz⟩ := I.tuple hq
    obtain ⟨u, hu, ru⟩ := rv.get hx
    have hel : e < s.heap.objs.size := Heap.lt_size he
    have hil : it < s.heap.objs.size := by obtain ⟨_, q, _⟩ := hit; exact Heap.lt_size q
    have hli : i < its.toArray.size := by
      have := (List.getElem?_eq_some_iff.mp hu).1
      simpa using this
    have nea : a ≠ it := fun z => by
      obtain ⟨o, h1, h2, h3⟩ := hit
      obtain ⟨o', g1, g2, _⟩ := p
      rw [z] at g1
      rw [h1] at g1
      cases g1
      rw [g2] at h2
      exact absurd h2 (by decide)
    have nee : e ≠ a := fun z => by
      obtain ⟨o', g1, g2, _⟩ := p
      rw [← z] at g1
      have he' : s.heap.get? e = some _ := he
      rw [he'] at g1
      cases g1
      have g3 : (Value.type "enumerate" : Value) = .type "tuple" := g2
      exact absurd g3 (by decide)
    refine wpAny_pyNext_enum_itemC (Draws.tuple (prog := X.prog) (w := X.w) (A := X.A.in1) (I.ok.hd hc) it a nea its.toArray) he ⟨hit, p⟩ hli hne (by simp only [List.mem_cons, List.not_mem_nil, or_false, not_or]; exact ⟨hne, nee⟩) fun y h' tk hP ho hit' hT hsz hk => ?_
    have ey : y = u := by
      have h2 : its.toArray[i]? = some y := hP
      rw [List.getElem?_toArray] at h2
      rw [hu] at h2
      exact (Option.some.inj h2).symm
    subst ey
    refine ⟨_, rfl, wpAny_letOwnedTupleGo_enum (s := { s with heap := h', toks := tk + 1 }) ho fun h'' he' sb => ?_⟩
    have hT2 : h''.get? s.heap.objs.size = some { cls := .type "tuple", data := .seq #[.int i tk, y] } := (sb.2 _ (Nat.ne_of_gt hel)).trans hT
    have new : ObjOk X.prog X.w (upd H s.heap.objs.size (.tup [.int (i : Nat), x])) h'' s.heap.objs.size (.tup [.int (i : Nat), x]) :=
      ⟨by show 2 ≤ sizeLine; decide, [.int i tk, y], .cons ⟨_, rfl⟩ (.cons ru .nil), ⟨_, hT2, rfl, _, rfl⟩⟩
    have I1 : Inv X pins σ (upd H s.heap.objs.size (.tup [.int (i : Nat), x])) { s with heap := h'', toks := tk + 1 } :=
      I.turnedNew (ch := [e, it]) (fun b ob hb q => (sb.2 b (fun z => hb (by simp [z]))).trans (hk b ob (fun z => hb (by simp [z])) (fun z => hb (by simp [z])) q)) hf (Nat.le_refl _) new
    refine ⟨.ref s.heap.objs.size, _, I1, rfl, ⟨_, x, rfl, I.hok.fresh (Nat.le_refl _), rfl, fun ys hy => by rw [I.tuple_inj hy hq]; exact hx⟩, ⟨⟨y, ?_⟩, hit'.1.at fun o q => (sb.2 it (Ne.symm hne)).trans q, hne⟩, fun b hb => ?_⟩
    · have e1 : ((i + 1 : Nat) : Int) = (i : Int) + 1 := by omega
      rw [e1]; exact he'
    · have hb' : b < s.heap.objs.size := by
        have e' : b = e ∨ b = it := by simpa using hb
        rcases e' with z | z
        · rw [z]; exact hel
        · rw [z]; exact hil
      rw [upd_ne (Nat.ne_of_lt hb')]
      exact (hf b hb).1
  done := by
    intro X hP hw hK hc i pins s σ H E I hf st hg
    subst hP hw hK
    obtain ⟨⟨old, he⟩, hit, hne⟩ := st
    obtain ⟨xs, hq, hx⟩ := hg
    obtain ⟨its, rv, p, hz⟩ := I.tuple hq
    obtain ⟨f0, f1, f2, f3, f4, f5⟩ := hf it (by simp)
    have hl := rv.length
    have nea : a ≠ it := fun z => by
      obtain ⟨o, h1, h2, h3⟩ := hit
      obtain ⟨o', g1, g2, _⟩ := p
      rw [z] at g1
      rw [h1] at g1
      cases g1
      rw [g2] at h2
      exact absurd h2 (by decide)
    have hsz : its.toArray.size = i := by
      rw [List.size_toArray, ← hl, hx]
    have DD := Draws.tuple (prog := X.prog) (w := X.w) (A := X.A.in1) (I.ok.hd hc) it a nea its.toArray
    rw [hsz] at DD
    exact wpAny_pyNext_enum_endD (n := i) DD he ⟨hit, p⟩ fun h' eb => ⟨rfl, I.turned (t' := s.toks) (fun b o hb q => eb b o hb q) f0 f1 f3 f4 f5⟩
  self := fun A i s Q E st h => let ⟨⟨_, he⟩, _⟩ := st; wpAny_pyIter_enum he h
theorem call_enumerate_tuple {prog : Program} {w : World} {A : Around} {E : Value → Shared → Prop} {s : Shared} {l : Addr} {items : Array Value} {Q : Value → Shared → Prop} (hL : s.heap.IsTuple l items)
    (h : ∀ h', IsEnum h' (s.heap.objs.size + 1) s.heap.objs.size 0 .none → h'.IsTupleIter s.heap.objs.size l 0 → h'.objs.size = s.heap.objs.size + 2 →
      (∀ b o, s.heap.get? b = some o → h'.get? b = some o) → Q (.ref (s.heap.objs.size + 1)) { s with heap := h' }) :
    wpAny (model prog w) A (call (.type "enumerate") [.ref l]) Q E s := by
  have M : Meets (Builtin.«enumerate.__new__» ⟨[.type "enumerate", .ref l], []⟩) (fun _ R s => s.heap.IsTuple l items ∧
      R (.ok (.ret (.ref (s.heap.push { cls := .type "tuple_iterator", data := .fields #[.ref l, .int 0 0] }).objs.size)))
        { s with heap := (s.heap.push { cls := .type "tuple_iterator", data := .fields #[.ref l, .int 0 0] }).push { cls := .type "enumerate", data := .fields #[.none, .bool false, .ref s.heap.objs.size, rawInt 0, .none, .none] } }) :=
    .of_wp fun prog w A R s h => by
      obtain ⟨hp, g, d, tk, os⟩ := s; obtain ⟨hl, h⟩ := h
      have hsub := sub_enumerate
      have hL : Heap.IsTuple (Shared.heap ⟨hp, g, d, tk, os⟩) l items := hl
      wp_walk using wpAny_pyIter_tuple hL
      refine wpAny_stack_any fun st => wpAny_pure ?_
      split
      · rename_i c _ _ _ _ _
        cases (c == Value.type "enumerate")
        · wp_walk using wpAny_pyIter_tuple hL
          exact ⟨_, rfl, h⟩
        · wp_walk using wpAny_pyIter_tuple hL
          exact ⟨_, rfl, h⟩
      · wp_walk using wpAny_pyIter_tuple hL
        exact ⟨_, rfl, h⟩
  refine callType_new F.called_enumerate (by decide) (F.typeCall_enumerate_1 _) (F.newCall_enumerate_1 _) (fun obj => F.args_object_init_2 obj _) F.entry_enumerate_new
    M ⟨hL, ?_⟩
  have hz : (s.heap.push { cls := .type "tuple_iterator", data := .fields #[.ref l, .int 0 0] }).objs.size = s.heap.objs.size + 1 := Heap.size_push ..
  show _ ∧ _
  rw [hz]
  have he : IsEnum ((s.heap.push { cls := .type "tuple_iterator", data := .fields #[.ref l, .int 0 0] }).push
      { cls := .type "enumerate", data := .fields #[.none, .bool false, .ref s.heap.objs.size, rawInt 0, .none, .none] }) (s.heap.objs.size + 1) s.heap.objs.size 0 .none := by
    have := Heap.get?_push_size (s.heap.push { cls := .type "tuple_iterator", data := .fields #[.ref l, .int 0 0] })
      (o := { cls := .type "enumerate", data := .fields #[.none, .bool false, .ref s.heap.objs.size, rawInt 0, .none, .none] }) rfl
    rw [hz] at this; exact this
  refine ⟨⟨_, he, rfl⟩, h _ he ⟨_, Heap.get?_push_of_some _ (Heap.get?_push_size _ rfl), rfl, rfl⟩ (by rw [Heap.size_push, hz]) fun b o x => Heap.get?_push_of_some _ (Heap.get?_push_of_some _ x)⟩
/-- enumerate(list or tuple) -/
def iEnumR (K : PySem.W.Frag) (ta : TA) : TI := fun σ H R => ta σ H fun vs H1 => ∃ a, vs = [.ref a] ∧ (((∃ xs, SqL K H1 a xs) ∧ R (Ite K a) H1) ∨ ((∃ xs, SqT K H1 a xs) ∧ R (IteT K a) H1))
theorem pi_enumR {e : Expr} {ta : TA} {p pos tpos : Pos} {elts : List Expr} {kk : Nat} (hg : Gl X "enumerate") (hm : X.mg "enumerate" = none) (ha : PA X [e] ta) (hs : starEach [e] X.env = [(false, eval e X.env)] := by rfl) :
    PI X (.Tuple elts kk tpos) (.Call (.Name "enumerate" p) [e] [] pos) (iEnumR X.K ta) := by
  refine ⟨fun pins s σ H R I h => ?_⟩
  refine Call_ (ld_blt I hg hm boot_enumerate (PyProof.Rows.callWith_type1 (thn (ha.run pos pins s σ H _ I h) fun us s1 ⟨vs, H1, I1, r1, q1⟩ => ?_) hs rfl))
  obtain ⟨a, ex, q1⟩ := q1
  subst ex
  have new : ∀ b ∈ [s1.heap.objs.size + 1, s1.heap.objs.size], FpOk X pins H1 b := fun b hb => by
    have e' : b = s1.heap.objs.size + 1 ∨ b = s1.heap.objs.size := by simpa using hb
    have hle : s1.heap.objs.size ≤ b := by
      rcases e' with z | z
      · rw [z]; exact Nat.le_add_right _ _
      · rw [z]; exact Nat.le_refl _
    exact I1.fpOk hle (I1.hok.fresh hle)
  cases r1 with
  | cons r rr =>
    cases rr
    cases r
    rcases q1 with ⟨⟨xs, hq⟩, q⟩ | ⟨⟨xs, hq⟩, q⟩
    · obtain ⟨its, rv, p', hz⟩ := I1.list hq
      refine call_enumerate_list p'.isList fun h' he hit hsz hk => wpAny_pyIter_enum he ?_
      have I2 : Inv X pins σ H1 { s1 with heap := h' } := I1.kept (t' := s1.toks) hk
      exact ⟨s1.heap.objs.size + 1, [s1.heap.objs.size + 1, s1.heap.objs.size], _, _, H1, rfl, I2, turn_enum a (s1.heap.objs.size + 1) s1.heap.objs.size, ⟨⟨.none, he⟩, hit, Nat.succ_ne_self _⟩, new, q⟩
    · obtain ⟨its, rv, p', hz⟩ := I1.tuple hq
      refine call_enumerate_tuple (items := its.toArray) p' fun h' he hit hsz hk => wpAny_pyIter_enum he ?_
      have I2 : Inv X pins σ H1 { s1 with heap := h' } := I1.kept (t' := s1.toks) hk
      exact ⟨s1.heap.objs.size + 1, [s1.heap.objs.size + 1, s1.heap.objs.size], _, _, H1, rfl, I2, turn_enumT a (s1.heap.objs.size + 1) s1.heap.objs.size, ⟨⟨.none, he⟩, hit, Nat.succ_ne_self _⟩, new, q⟩
/-- enumerate(text) -/
def IteS (z : Str) : It :=
  ⟨fun i H => i < z.cps.size, fun i H v H' => ∃ T c, v = .ref T ∧ H T = none ∧ H' = upd H T (.tup [.int (i : Nat), .str ⟨#[c]⟩]) ∧ z.cps[i]? = some c, fun i H => i = z.cps.size⟩
theorem turn_enumS {P : Program} {w : World} {K : PySem.W.Frag} {elts : List Expr} {kk : Nat} {tpos : Pos} (z : Str) (t : Tok) (e it : Addr) :
    Turn P w K (.Tuple elts kk tpos) (IteS z) [e, it] e (fun i h => (∃ old, IsEnum h e it ((i : Nat) : Int) old) ∧ h.IsStrIter it (strIterType z) z t i ∧ e ≠ it) where
  mem := by simp
  obj := fun i h st b hb => by
    obtain ⟨⟨old, he⟩, hit, _⟩ := st
    have e' : b = e ∨ b = it := by simpa using hb
    rcases e' with z | z
    · rw [z]; exact ⟨_, he, fun v q => nomatch q⟩
    · rw [z]
      obtain ⟨o, ho, hc, hd⟩ := hit
      exact ⟨o, ho, fun v q => by rw [hd] at q; cases q⟩
  keep := fun i h h' st k => let ⟨⟨old, he⟩, ⟨o, h1, h2, h3⟩, hne⟩ := st; ⟨⟨old, k e (by simp) _ he⟩, ⟨o, k it (by simp) o h1, h2, h3⟩, hne⟩
  item := by
    intro X hP hw hK hc i pins s σ H E I hf st hg
    subst hP hw hK
    obtain ⟨⟨old, he⟩, hit, hne⟩ := st
    have hel : e < s.heap.objs.size := Heap.lt_size he
    have hil : it < s.heap.objs.size := by obtain ⟨_, q, _⟩ := hit; exact Heap.lt_size q
    refine wpAny_pyNext_enum_itemC (Draws.text (prog := X.prog) (w := X.w) (A := X.A.in1) (I.ok.hd hc) it z t) he hit hg hne (by simpa using hne) fun y h' tk hP ho hit' hT hsz hk => ?_
    obtain ⟨c, u, hcu, rfl⟩ := hP
    refine ⟨_, rfl, wpAny_letOwnedTupleGo_enum (s := { s with heap := h', toks := tk + 1 }) ho fun h'' he' sb => ?_⟩
    have hT2 : h''.get? s.heap.objs.size = some { cls := .type "tuple", data := .seq #[.int i tk, .str ⟨#[c]⟩ u] } := (sb.2 _ (Nat.ne_of_gt hel)).trans hT
    have new : ObjOk X.prog X.w (upd H s.heap.objs.size (.tup [.int (i : Nat), .str ⟨#[c]⟩])) h'' s.heap.objs.size (.tup [.int (i : Nat), .str ⟨#[c]⟩]) :=
      ⟨by show 2 ≤ sizeLine; decide, [.int i tk, .str ⟨#[c]⟩ u], .cons ⟨_, rfl⟩ (.cons ⟨_, rfl⟩ .nil), ⟨_, hT2, rfl, _, rfl⟩⟩
    have I1 : Inv X pins σ (upd H s.heap.objs.size (.tup [.int (i : Nat), .str ⟨#[c]⟩])) { s with heap := h'', toks := tk + 1 } :=
      I.turnedNew (ch := [e, it]) (fun b ob hb q => (sb.2 b (fun z => hb (by simp [z]))).trans (hk b ob (fun z => hb (by simp [z])) (fun z => hb (by simp [z])) q)) hf (Nat.le_refl _) new
    refine ⟨.ref s.heap.objs.size, _, I1, rfl, ⟨_, c, rfl, I.hok.fresh (Nat.le_refl _), rfl, hcu⟩, ⟨⟨.str ⟨#[c]⟩ u, ?_⟩, ?_, hne⟩, fun b hb => ?_⟩
    · have e1 : ((i + 1 : Nat) : Int) = (i : Int) + 1 := by omega
      rw [e1]; exact he'
    · obtain ⟨o, h1, h2, h3⟩ := hit'
      exact ⟨o, (sb.2 it (Ne.symm hne)).trans h1, h2, h3⟩
    · have hb' : b < s.heap.objs.size := by
        have e' : b = e ∨ b = it := by simpa using hb
        rcases e' with z | z
        · rw [z]; exact hel
        · rw [z]; exact hil
      rw [upd_ne (Nat.ne_of_lt hb')]
      exact (hf b hb).1
  done := by
    intro X hP hw hK hc i pins s σ H E I hf st hg
    subst hP hw hK
    obtain ⟨⟨old, he⟩, hit, hne⟩ := st
    obtain ⟨f0, f1, f2, f3, f4, f5⟩ := hf it (by simp)
    have hg' : i = z.cps.size := hg
    subst hg'
    exact wpAny_pyNext_enum_endD (Draws.text (prog := X.prog) (w := X.w) (A := X.A.in1) (I.ok.hd hc) it z t) he hit fun h' eb => ⟨rfl, I.turned (t' := s.toks) (fun b o hb q => eb b o hb q) f0 f1 f3 f4 f5⟩
  self := fun A i s Q E st h => let ⟨⟨_, he⟩, _⟩ := st; wpAny_pyIter_enum he h
def iEnumS (ta : TA) : TI := fun σ H R => ta σ H fun vs H1 => ∃ z, vs = [.str z] ∧ R (IteS z) H1
theorem pi_enumS {e : Expr} {ta : TA} {p pos tpos : Pos} {elts : List Expr} {kk : Nat} (hg : Gl X "enumerate") (hm : X.mg "enumerate" = none) (ha : PA X [e] ta) (hs : starEach [e] X.env = [(false, eval e X.env)] := by rfl) :
    PI X (.Tuple elts kk tpos) (.Call (.Name "enumerate" p) [e] [] pos) (iEnumS ta) := by
  refine ⟨fun pins s σ H R I h => ?_⟩
  refine Call_ (ld_blt I hg hm boot_enumerate (PyProof.Rows.callWith_type1 (thn (ha.run pos pins s σ H _ I h) fun us s1 ⟨vs, H1, I1, r1, q1⟩ => ?_) hs rfl))
  obtain ⟨z, ex, q⟩ := q1
  subst ex
  have new : ∀ b ∈ [s1.heap.objs.size + 1, s1.heap.objs.size], FpOk X pins H1 b := fun b hb => by
    have e' : b = s1.heap.objs.size + 1 ∨ b = s1.heap.objs.size := by simpa using hb
    have hle : s1.heap.objs.size ≤ b := by
      rcases e' with z | z
      · rw [z]; exact Nat.le_add_right _ _
      · rw [z]; exact Nat.le_refl _
    exact I1.fpOk hle (I1.hok.fresh hle)
  cases r1 with
  | cons r rr =>
    cases rr
    obtain ⟨t, rfl⟩ := r
    refine call_enumerate_str fun h' he hit hsz hk => wpAny_pyIter_enum he ?_
    have I2 : Inv X pins σ H1 { s1 with heap := h' } := I1.kept (t' := s1.toks) hk
    exact ⟨s1.heap.objs.size + 1, [s1.heap.objs.size + 1, s1.heap.objs.size], _, _, H1, rfl, I2, turn_enumS z t (s1.heap.objs.size + 1) s1.heap.objs.size, ⟨⟨.none, he⟩, hit, Nat.succ_ne_self _⟩, new, q⟩
end
end U
namespace U
open PySem PySem.Spec PyProof.Rows L2

mutual
/-- the value v is the key k -/
inductive NK (H : Hp) : NestedKey → V → Prop where
  | non : NK H .none .non
  | bl (b : Bool) : NK H (.num (if b = true then 1 else 0)) (.bl b)
  | int (i : Int) : NK H (.num i) (.int i)
  | str (x : Str) : NK H (.text x) (.str x)
  | nil {a : Addr} (h : H a = some (.tup [])) : NK H (.tup []) (.ref a)
  | cons {a : Addr} {k : NestedKey} {ks : List NestedKey} {v : V} {vs : List V} (h : H a = some (.tup (v :: vs))) (hk : NK H k v) (hks : NKs' H ks vs) : NK H (.tup (k :: ks)) (.ref a)
inductive NKs' (H : Hp) : List NestedKey → List V → Prop where
  | nil : NKs' H [] []
  | cons {k : NestedKey} {ks : List NestedKey} {v : V} {vs : List V} (hk : NK H k v) (hks : NKs' H ks vs) : NKs' H (k :: ks) (v :: vs)
end
/-- tuples stay -/
def TKp (H H' : Hp) : Prop := ∀ b vs, H b = some (.tup vs) → H' b = some (.tup vs)
theorem NK.tup {H : Hp} {a : Addr} {ks : List NestedKey} {vs : List V} (h : H a = some (.tup vs)) (hk : NKs' H ks vs) : NK H (.tup ks) (.ref a) := by
  cases hk with
  | nil => exact .nil h
  | cons a b => exact .cons h a b
mutual
theorem NK.kp {H H' : Hp} (t : TKp H H') : ∀ {k : NestedKey} {v : V}, NK H k v → NK H' k v
  | _, _, .non => .non
  | _, _, .bl b => .bl b
  | _, _, .int i => .int i
  | _, _, .str x => .str x
  | _, _, .nil h => .nil (t _ _ h)
  | _, _, .cons h a b => .cons (t _ _ h) (NK.kp t a) (NKs'.kp t b)
theorem NKs'.kp {H H' : Hp} (t : TKp H H') : ∀ {ks : List NestedKey} {vs : List V}, NKs' H ks vs → NKs' H' ks vs
  | _, _, .nil => .nil
  | _, _, .cons a b => .cons (NK.kp t a) (NKs'.kp t b)
end
section
variable {X : Cx} {pins : List (Addr × Obj)} {σ : L2.St} {H : Hp} {s : Shared}
mutual
theorem NK.is (I : Inv X pins σ H s) : ∀ {k : NestedKey} {v : V} {u : Value}, NK H k v → RelV v u → NestedIs s.heap k u
  | _, _, u, .non, r => by
    obtain rfl : u = Value.none := r
    exact .none
  | _, _, u, .bl b, r => by
    obtain rfl : u = Value.bool b := r
    exact .bool rfl
  | _, _, u, .int i, r => by
    obtain ⟨t, rfl⟩ := r
    exact .int i t
  | _, _, u, .str x, r => by
    obtain ⟨t, rfl⟩ := r
    exact .text x t
  | _, _, u, .nil (a := a) h, r => by
    obtain rfl : u = Value.ref a := r
    obtain ⟨_, its, rv, o, h1, h2, n, h3⟩ := (show ObjOk X.prog X.w H s.heap a (.tup []) from I.hok a _ h)
    cases rv
    exact .tup h1 h2 h3 .nil
  | _, _, u, .cons (a := a) (v := v) (vs := vs) h hk hks, r => by
    obtain rfl : u = Value.ref a := r
    obtain ⟨_, its, rv, o, h1, h2, n, h3⟩ := (show ObjOk X.prog X.w H s.heap a (.tup (v :: vs)) from I.hok a _ h)
    cases rv with
    | cons r1 r2 => exact .tup h1 h2 h3 (.cons (NK.is I hk r1) (NKs'.is I hks r2))
theorem NKs'.is (I : Inv X pins σ H s) : ∀ {ks : List NestedKey} {vs : List V} {us : List Value}, NKs' H ks vs → Vals vs us → NestedAll s.heap ks us
  | _, _, _, .nil, .nil => .nil
  | _, _, _, .cons a b, .cons r1 r2 => .cons (NK.is I a r1) (NKs'.is I b r2)
end
end

def NEnts (P : Program) (w : World) (d : Addr) (xs : List (NestedKey × Addr × Value)) : Heap → Prop := fun h =>
  ∃ o es ep, h.get? d = some o ∧ o.ExactDict ∧ o.data = .dict es ep ∧ es.toList = xs.map (entryOfKey (nestedKind P w)) ∧ (xs.map (·.1)).Nodup
def PairN (kvs : List (NestedKey × V)) (xs : List (NestedKey × Addr × Value)) : Prop := Paired (fun (p : NestedKey × V) (q : NestedKey × Addr × Value) => p.1 = q.1 ∧ RelV p.2 q.2.2) kvs xs
structure NDict (P : Program) (w : World) (H : Hp) (d : Addr) (kvs : List (NestedKey × V)) : Prop where
  ex : ∃ xs, H d = some (.ext (NEnts P w d xs)) ∧ (∀ x ∈ xs, NK H x.1 (.ref x.2.1) ∧ x.1.depth ≤ 8) ∧ PairN kvs xs
  nz : (d == sysModules) = false
  len : kvs.length ≤ sizeLine
def lookN (kvs : List (NestedKey × V)) (k : NestedKey) : Option V := (kvs.find? fun kv => decide (kv.1 = k)).map (·.2)
def putN (kvs : List (NestedKey × V)) (k : NestedKey) (v : V) : List (NestedKey × V) := if (lookN kvs k).isSome = true then kvs.map (fun kv => if kv.1 = k then (kv.1, v) else kv) else kvs ++ [(k, v)]
theorem NDict.kp {P : Program} {w : World} {H H' : Hp} {d : Addr} {kvs : List (NestedKey × V)} (n : NDict P w H d kvs) (t : TKp H H') (e : H' d = H d) : NDict P w H' d kvs := by
  obtain ⟨xs, h1, h2, h3⟩ := n.ex
  exact ⟨⟨xs, e.trans h1, fun x hx => ⟨(h2 x hx).1.kp t, (h2 x hx).2⟩, h3⟩, n.nz, n.len⟩
theorem PairN.look : ∀ {kvs : List (NestedKey × V)} {xs : List (NestedKey × Addr × Value)} {k : NestedKey}, PairN kvs xs →
    (lookN kvs k = none ∧ atKey xs k = none) ∨ ∃ v p, lookN kvs k = some v ∧ atKey xs k = some p ∧ RelV v p.2
  | _, _, k, .nil => .inl ⟨rfl, rfl⟩
  | _, _, k, .cons (a := x) (b := y) r t => by
    by_cases h : x.1 = k
    · refine .inr ⟨x.2, y.2, ?_, ?_, r.2⟩
      · simp [lookN, h]
      · simp [atKey, r.1.symm.trans h]
    · have h2 : ¬ y.1 = k := fun z => h (r.1.trans z)
      have e1 : ∀ l, lookN (x :: l) k = lookN l k := fun l => by simp [lookN, h]
      have e2 : ∀ l, atKey (y :: l) k = atKey l k := fun l => by simp [atKey, h2]
      rw [e1, e2]
      exact PairN.look t

theorem PairN.any : ∀ {kvs : List (NestedKey × V)} {xs : List (NestedKey × Addr × Value)} {k : NestedKey}, PairN kvs xs → (lookN kvs k).isSome = (atKey xs k).isSome := fun {kvs xs k} r => by
  rcases r.look (k := k) with ⟨h1, h2⟩ | ⟨v, p, h1, h2, _⟩
  · rw [h1, h2]; rfl
  · rw [h1, h2]; rfl
theorem PairN.length {kvs : List (NestedKey × V)} {xs : List (NestedKey × Addr × Value)} (r : PairN kvs xs) : kvs.length = xs.length := Paired.length r
theorem PairN.app : ∀ {kvs : List (NestedKey × V)} {xs : List (NestedKey × Addr × Value)} {k : NestedKey} {v : V} {a : Addr} {u : Value}, PairN kvs xs → RelV v u → PairN (kvs ++ [(k, v)]) (xs ++ [(k, a, u)])
  | _, _, _, _, _, _, .nil, r => .cons ⟨rfl, r⟩ .nil
  | _, _, _, _, _, _, .cons h t, r => .cons h (PairN.app t r)
theorem PairN.rep : ∀ {kvs : List (NestedKey × V)} {xs : List (NestedKey × Addr × Value)} {k : NestedKey} {v : V} {u : Value}, PairN kvs xs → RelV v u →
    PairN (kvs.map (fun kv => if kv.1 = k then (kv.1, v) else kv)) (xs.map (putAt k u))
  | _, _, _, _, _, .nil, r => .nil
  | _, _, k, v, u, .cons (a := x) (b := y) h t, r => by
    refine .cons ?_ (PairN.rep t r)
    unfold putAt
    by_cases e : x.1 = k
    · have e2 : y.1 = k := h.1.symm.trans e
      simp only [e, e2, if_true]
      exact ⟨trivial, r⟩
    · have e2 : ¬ y.1 = k := fun z => e (h.1.trans z)
      simp only [e, e2, if_false]
      exact h
theorem PairN.put {kvs : List (NestedKey × V)} {xs : List (NestedKey × Addr × Value)} {k : NestedKey} {v : V} {a : Addr} {u : Value} (p : PairN kvs xs) (r : RelV v u) : PairN (putN kvs k v) (storedH xs k a u) := by
  unfold putN storedH
  rw [p.any]
  split
  · exact p.rep r
  · exact p.app r

theorem nents_ok {P : Program} {w : World} {H : Hp} {h : Heap} {d : Addr} {xs : List (NestedKey × Addr × Value)} (e : NEnts P w d xs h) : ObjOk P w H h d (.ext (NEnts P w d xs)) := by
  obtain ⟨o, es, ep, h1, h2, h3, h4, h5⟩ := id e
  refine ⟨e, ⟨o, h1⟩, fun a b x k => ?_⟩
  obtain ⟨o', es', ep', g1, g2, g3, g4, g5⟩ := x
  exact ⟨o', es', ep', k _ g1, g2, g3, g4, g5⟩
theorem tkp_upd {H : Hp} {d : Addr} {o : HO} (h : ∀ vs, H d ≠ some (.tup vs)) : TKp H (upd H d o) := fun b vs e => by
  rw [upd_ne (fun z => h vs (by rw [← z]; exact e))]
  exact e
section
variable {X : Cx} {pins : List (Addr × Obj)} {σ : L2.St} {H : Hp} {s : Shared} {d a : Addr} {k : NestedKey} {kvs : List (NestedKey × V)} {E : Value → Shared → Prop}
theorem NDict.dict (I : Inv X pins σ H s) (n : NDict X.prog X.w H d kvs) : ∃ xs, H d = some (.ext (NEnts X.prog X.w d xs)) ∧ s.heap.DictOfH (nestedKind X.prog X.w) d xs ∧ PairN kvs xs ∧ (∀ x ∈ xs, NK H x.1 (.ref x.2.1) ∧ x.1.depth ≤ 8) := by
  obtain ⟨xs, h1, h2, h3⟩ := n.ex
  obtain ⟨⟨o, es, ep, g1, g2, g3, g4, g5⟩, _, _⟩ := (show ObjOk X.prog X.w H s.heap d (.ext (NEnts X.prog X.w d xs)) from I.hok d _ h1)
  exact ⟨xs, h1, ⟨o, es, ep, g1, g2, g3, g4, fun x hx => ⟨(h2 x hx).1.is I rfl, (h2 x hx).2⟩, g5⟩, h3, h2⟩
theorem nroom {A : Around} (hu : A.units + 64 < cLine) : (nestedKind X.prog X.w).room A.in1 := by
  show A.units + 1 + 8 < cLine
  omega
theorem nroom0 {A : Around} (hu : A.units + 64 < cLine) : (nestedKind X.prog X.w).room A := by
  show A.units + 8 < cLine
  omega
def KeyAt (H : Hp) (k : NestedKey) (y : V) : Prop := ∃ a, y = .ref a ∧ NK H k (.ref a) ∧ k.depth ≤ 8
theorem n_in {Q : VK} {iv : Value} {y : V} (hu : X.A.units + 64 < cLine) (I : Inv X pins σ H s) (n : NDict X.prog X.w H d kvs) (ky : KeyAt H k y) (ry : RelV y iv) (q : Q (.bl (lookN kvs k).isSome) H) : wpAny (model X.prog X.w) X.A (compareOp .In iv (.ref d)) (EP X pins σ Q) E s := by
  obtain ⟨a, rfl, nk, hd⟩ := ky
  obtain rfl : iv = Value.ref a := ry
  obtain ⟨xs, _, hx, hp, _⟩ := n.dict I
  refine wpAny_in_heap (nroom hu) ⟨nk.is I rfl, hd⟩ n.nz hx ?_
  rw [← hp.any]
  exact ⟨.bl _, H, I.tok _, rfl, q⟩
theorem n_notIn {Q : VK} {iv : Value} {y : V} (hu : X.A.units + 64 < cLine) (I : Inv X pins σ H s) (n : NDict X.prog X.w H d kvs) (ky : KeyAt H k y) (ry : RelV y iv) (q : Q (.bl (!(lookN kvs k).isSome)) H) : wpAny (model X.prog X.w) X.A (compareOp .NotIn iv (.ref d)) (EP X pins σ Q) E s := by
  obtain ⟨a, rfl, nk, hd⟩ := ky
  obtain rfl : iv = Value.ref a := ry
  obtain ⟨xs, _, hx, hp, _⟩ := n.dict I
  show wpAny _ _ (do return Value.bool (!(← contains (.ref d) (.ref a)))) _ E s
  refine wpAny_bind (wpAny_contains_heap (nroom hu) ⟨nk.is I rfl, hd⟩ n.nz hx (wpAny_pure ?_))
  rw [← hp.any]
  exact ⟨.bl _, H, I.tok _, rfl, q⟩
theorem n_get {Q : VK} {iv : Value} {y v : V} (hu : X.A.units + 64 < cLine) (I : Inv X pins σ H s) (n : NDict X.prog X.w H d kvs) (ky : KeyAt H k y) (ry : RelV y iv) (hv : lookN kvs k = some v) (q : Q v H) : wpAny (model X.prog X.w) X.A (getItem (.ref d) iv) (EP X pins σ Q) E s := by
  obtain ⟨a, rfl, nk, hd⟩ := ky
  obtain rfl : iv = Value.ref a := ry
  obtain ⟨xs, _, hx, hp, _⟩ := n.dict I
  rcases hp.look (k := k) with ⟨h1, _⟩ | ⟨v', p, h1, h2, h3⟩
  · rw [h1] at hv; cases hv
  · rw [h1] at hv
    cases hv
    exact wpAny_getItem_heap (nroom hu) ⟨nk.is I rfl, hd⟩ hx h2 ⟨v, H, I.tok _, h3, q⟩
theorem n_put {Q : Unit → Shared → Prop} {iv u : Value} {y v : V} (hu : X.A.units + 64 < cLine) (I : Inv X pins σ H s) (n : NDict X.prog X.w H d kvs) (ky : KeyAt H k y) (ry : RelV y iv) (rv : RelV v u) (hz : kvs.length < sizeLine)
    (q : ∀ o s', NDict X.prog X.w (upd H d o) d (putN kvs k v) → Inv X pins σ (upd H d o) s' → Q () s') : wpAny (model X.prog X.w) X.A (setItem (.ref d) iv u) Q E s := by
  obtain ⟨a, rfl, nk, hd⟩ := ky
  obtain rfl : iv = Value.ref a := ry
  obtain ⟨xs, e, hx, hp, hk⟩ := n.dict I
  refine wpAny_setItem_heap (hsz := by rw [← hp.length]; omega) (nroom hu) ⟨nk.is I rfl, hd⟩ hx fun h' hm' hs => ?_
  obtain ⟨o, es, ep, g1, g2, g3, g4, _, g5⟩ := hm'
  have tk : ∀ o', TKp H (upd H d o') := fun o' => tkp_upd fun vs z => by rw [e] at z; cases z
  refine q (.ext (NEnts X.prog X.w d (storedH xs k a u))) _ ⟨⟨_, upd_same, fun x hx' => ?_, hp.put rv⟩, n.nz, ?_⟩
    (I.write (t' := s.toks + (nestedKind X.prog X.w).draws k) (x := d) (e := d) (by rw [e]; exact True.intro) (.inl rfl) (fun b ob hb eb => (hs.2 b hb).trans eb) ⟨o, g1⟩ (nents_ok ⟨o, es, ep, g1, g2, g3, g4, g5⟩))
  · unfold storedH at hx'
    split at hx'
    · obtain ⟨z, hz1, rfl⟩ := List.mem_map.mp hx'
      have h3 := hk z hz1
      unfold putAt
      split
      · exact ⟨h3.1.kp (tk _), h3.2⟩
      · exact ⟨h3.1.kp (tk _), h3.2⟩
    · rcases List.mem_append.mp hx' with z | z
      · exact ⟨(hk x z).1.kp (tk _), (hk x z).2⟩
      · have e2 : x = (k, a, u) := by simpa using z
        subst e2
        exact ⟨nk.kp (tk _), hd⟩
  · unfold putN
    split
    · rw [List.length_map]; omega
    · rw [List.length_append, List.length_singleton]; omega
end

def tNIn (P : Program) (w : World) (ty td : TE) : TE := fun σ H Q => ty σ H fun y H1 => td σ H1 fun x H2 => ∃ d k kvs, x = .ref d ∧ NDict P w H2 d kvs ∧ KeyAt H2 k y ∧ Q (.bl (lookN kvs k).isSome) H2
def tNNotIn (P : Program) (w : World) (ty td : TE) : TE := fun σ H Q => ty σ H fun y H1 => td σ H1 fun x H2 => ∃ d k kvs, x = .ref d ∧ NDict P w H2 d kvs ∧ KeyAt H2 k y ∧ Q (.bl (!(lookN kvs k).isSome)) H2
def tNGet (P : Program) (w : World) (td ty : TE) : TE := fun σ H Q => td σ H fun x H1 => ty σ H1 fun y H2 => ∃ d k kvs v, x = .ref d ∧ NDict P w H2 d kvs ∧ KeyAt H2 k y ∧ lookN kvs k = some v ∧ Q v H2
def sNPut (P : Program) (w : World) (td ty tv : TE) : TS := fun D σ H => tv σ H fun v H1 => td σ H1 fun x H2 => ty σ H2 fun y H3 => ∃ d k kvs, x = .ref d ∧ NDict P w H3 d kvs ∧ KeyAt H3 k y ∧ kvs.length < sizeLine ∧ ∀ o, NDict P w (upd H3 d o) d (putN kvs k v) → D.nx σ (upd H3 d o)
def tNNew (P : Program) (w : World) : TE := fun _ H Q => ∀ p o, H p = none → NDict P w (upd H p o) p [] → Q (.ref p) (upd H p o)
section
variable {X : Cx} {i o value : Expr} {ty td tv : TE} {pos pos' : Pos}
theorem pc_nin (hu : X.A.units + 64 < cLine) (hi : PE X i ty) (ho : PE X o td) : PC X .In i o (tNIn X.prog X.w ty td) := by
  refine ⟨fun pins s σ H Q I h => ?_⟩
  refine thn (hi.run pins s σ H _ I h) fun iv s1 ⟨y, H1, I1, ry, q1⟩ => thn (ho.run pins s1 σ H1 _ I1 q1) fun u s2 ⟨x, H2, I2, rx, d, k, kvs, ex, n, ky, q2⟩ => ?_
  subst ex
  obtain rfl : u = Value.ref d := rx
  exact n_in hu I2 n ky ry q2
theorem pc_nnotin (hu : X.A.units + 64 < cLine) (hi : PE X i ty) (ho : PE X o td) : PC X .NotIn i o (tNNotIn X.prog X.w ty td) := by
  refine ⟨fun pins s σ H Q I h => ?_⟩
  refine thn (hi.run pins s σ H _ I h) fun iv s1 ⟨y, H1, I1, ry, q1⟩ => thn (ho.run pins s1 σ H1 _ I1 q1) fun u s2 ⟨x, H2, I2, rx, d, k, kvs, ex, n, ky, q2⟩ => ?_
  subst ex
  obtain rfl : u = Value.ref d := rx
  exact n_notIn hu I2 n ky ry q2
theorem pe_nget (hu : X.A.units + 64 < cLine) (ho : PE X o td) (hi : PE X i ty) (hs : NoSl i) : PE X (.Subscript o i pos) (tNGet X.prog X.w td ty) := by
  refine ⟨fun pins s σ H Q I h => ?_⟩
  refine subD_of PySem.F.slot_dict_getitem.lookup hs (thn (ho.run pins s σ H _ I h) fun u s1 ⟨x, H1, I1, rx, q1⟩ => thn (hi.run pins s1 σ H1 _ I1 q1) fun iv s2 ⟨y, H2, I2, ry, d, k, kvs, v, ex, n, ky, e, q2⟩ => ?_)
  subst ex
  obtain rfl : u = Value.ref d := rx
  obtain ⟨xs, _, hx, _, _⟩ := n.dict I2
  exact ⟨hx.typeIs, n_get hu I2 n ky ry e q2⟩
theorem ps_nput (hu : X.A.units + 64 < cLine) (ho : PE X o td) (hi : PE X i ty) (hv : PE X value tv) (hs : swapsWith value (some (.Subscript o i pos')) pos.line X.env = pure false) :
    PS X (.Assign [.Subscript o i pos'] value pos) (sNPut X.prog X.w td ty tv) := by
  refine ⟨fun pins s σ H D I h => ?_⟩
  refine wpAny_Assign_Subscript (thn (hv.run pins s σ H _ I h) fun r s1 ⟨v, H1, I1, rv, q1⟩ => thn (ho.run pins s1 σ H1 _ I1 q1) fun u s2 ⟨x, H2, I2, rx, q2⟩ => thn (hi.run pins s2 σ H2 _ I2 q2) fun iv s3 ⟨y, H3, I3, ry, d, k, kvs, ex, n, ky, hz, q3⟩ => ?_) hs
  subst ex
  obtain rfl : u = Value.ref d := rx
  exact n_put hu I3 n ky ry rv hz fun o s4 n4 I4 => ⟨σ, _, I4, q3 o n4⟩
theorem nempty {P : Program} {w : World} {h : Heap} : NEnts P w h.objs.size [] (h.push { cls := .type "dict", data := .dict #[] }) := ⟨_, #[], 0, Heap.get?_push_size _ rfl, ⟨rfl, rfl, rfl⟩, rfl, rfl, List.nodup_nil⟩
theorem pe_dnewN : PE X (.Dict [] [] pos) (tNNew X.prog X.w) := ⟨fun pins s σ H Q I h => by
  have hn := I.hok.fresh (Nat.le_refl s.heap.objs.size)
  refine wpAny_Dict_empty ⟨.ref s.heap.objs.size, _, I.laid (a := s.heap.objs.size) (o := .ext (NEnts X.prog X.w s.heap.objs.size [])) (t' := s.toks) (fun _ _ q => Heap.get?_push_of_some _ q) (Nat.le_refl _) (nents_ok nempty), rfl, h _ _ hn ?_⟩
  exact ⟨⟨[], upd_same, fun x hx => by simp at hx, .nil⟩, beq_eq_false_iff_ne.mpr (Ne.symm (Nat.ne_of_lt I.big)), Nat.zero_le _⟩⟩
/-- len of such a dict -/
theorem call_lenN : CallR X (.builtin "len") (fun xs H Q => ∃ d kvs, xs = [V.ref d] ∧ NDict X.prog X.w H d kvs ∧ Q (.int kvs.length) H) := by
  intro pins s σ H xs us Q I r h
  obtain ⟨d, kvs, rfl, n, q⟩ := h
  obtain ⟨u, rfl, ru⟩ := vals1 r
  cases ru
  obtain ⟨xs, _, hx, hp, _⟩ := n.dict I
  have hl := n.len
  have hd : s.heap.DictKeyed (nestedKind X.prog X.w) d (pairsH xs) := ⟨xs, hx, rfl⟩
  have e : (pairsH xs).length = kvs.length := by rw [pairsH_length, hp.length]
  refine PyProof.Rows.call_len_slot (n := ((pairsH xs).length : Nat)) hx.typeIs PySem.F.slot_dict_len (fun Q' hq => len_keyed n.nz hd hq) (by omega) (by rw [e]; rw [sizeLine_eq] at hl; omega) ?_
  rw [e]
  exact ⟨.int _, H, I.tok _, ⟨_, rfl⟩, q⟩
/-- {k: v}, k a tuple -/
def tDisp1N (P : Program) (w : World) (tk tv : TE) : TE := fun σ H Q => ∀ p o, H p = none → NDict P w (upd H p o) p [] → tk σ (upd H p o) fun y H1 => tv σ H1 fun v H2 => ∃ k, KeyAt H2 k y ∧ NDict P w H2 p [] ∧ ∀ o', NDict P w (upd H2 p o') p [(k, v)] → Q (.ref p) (upd H2 p o')
theorem pe_disp1N {k v : Expr} {tk tv : TE} (hu : X.A.units + 64 < cLine) (hk : PE X k tk) (hv : PE X v tv) : PE X (.Dict [some k] [v] pos) (tDisp1N X.prog X.w tk tv) := by
  refine ⟨fun pins s σ H Q I h => ?_⟩
  have hn := I.hok.fresh (Nat.le_refl s.heap.objs.size)
  have I1 := I.laid (a := s.heap.objs.size) (o := .ext (NEnts X.prog X.w s.heap.objs.size [])) (h' := s.heap.push { cls := .type "dict", data := .dict #[] }) (t' := s.toks) (fun _ _ q => Heap.get?_push_of_some _ q) (Nat.le_refl _) (nents_ok nempty)
  have nz : (s.heap.objs.size == sysModules) = false := beq_eq_false_iff_ne.mpr (Ne.symm (Nat.ne_of_lt I.big))
  have h1 := h s.heap.objs.size (.ext (NEnts X.prog X.w s.heap.objs.size [])) hn ⟨⟨[], upd_same, fun x hx => by simp at hx, .nil⟩, nz, Nat.zero_le _⟩
  have hshape : (evalEachOpt [some k] X.env).zip ((evalEach [v] X.env).map fun v => do let x ← v; standAt pos; pure x) = (pairTrees [some k] [v] X.env pos).map fun p => (some p.1, p.2) := by rfl
  show wpAny _ _ _ _ _ _
  rw [arm_eval_Dict, hshape, dictDisplay_pairs (pairTrees [some k] [v] X.env pos) (by intro z; cases z) (by show 1 < 17; decide)]
  refine wpAny_bind (wpAny_standAt (wpAny_bind (wpAny_subDictH (knd := nestedKind X.prog X.w) (Q := fun d s' => wpAny (model X.prog X.w) X.A (pure (Value.ref d)) (EP X pins σ Q) X.xe s') (nroom0 hu) (by show 1 ≤ 15; decide) ?_)))
  refine thn ((pps_cons hk hv pps_nil).run pins _ σ _ (fun ps H2 => match ps with
    | [(y, v)] => ∃ k, KeyAt H2 k y ∧ NDict X.prog X.w H2 s.heap.objs.size [] ∧ ∀ o', NDict X.prog X.w (upd H2 s.heap.objs.size o') s.heap.objs.size [(k, v)] → Q (.ref s.heap.objs.size) (upd H2 s.heap.objs.size o')
    | _ => False) I1 h1) fun ws s2 ⟨ps, H2, I2, rel, q2⟩ => ?_
  cases rel with
  | nil => exact q2.elim
  | @cons pp bb ps' ws' rr rt =>
    cases rt with
    | cons _ _ => exact q2.elim
    | nil =>
      obtain ⟨y, vv⟩ := pp
      obtain ⟨b1, b2⟩ := bb
      obtain ⟨kk, ⟨a, ea, nk, hd⟩, nd, q2⟩ := q2
      obtain ⟨r1, r2⟩ := rr
      have ea' : y = V.ref a := ea
      subst ea'
      have eb : b1 = Value.ref a := r1
      subst eb
      obtain ⟨xs, e, hx, hp, _⟩ := nd.dict I2
      cases hp
      refine ⟨[(kk, a, b2)], ⟨rfl, rfl, ⟨nk.is I2 rfl, hd⟩, True.intro⟩, hx, fun h' tk hm hs => ?_⟩
      obtain ⟨o, es, ep, g1, g2, g3, g4, _, g5⟩ := hm
      have g4' : es.toList = ([(kk, a, b2)] : List (NestedKey × Addr × Value)).map (entryOfKey (nestedKind X.prog X.w)) := g4
      have tkp : ∀ o', TKp H2 (upd H2 s.heap.objs.size o') := fun o' => tkp_upd fun vs z => by rw [e] at z; cases z
      refine wpAny_pure ⟨.ref s.heap.objs.size, upd H2 s.heap.objs.size (.ext (NEnts X.prog X.w s.heap.objs.size [(kk, a, b2)])), I2.write (t' := tk) (x := s.heap.objs.size) (e := s.heap.objs.size) (by rw [e]; exact True.intro) (.inl rfl) (fun b ob hb eb => (hs.2 b hb).trans eb) ⟨o, g1⟩ (nents_ok ⟨o, es, ep, g1, g2, g3, g4', by simp⟩), rfl, q2 _ ?_⟩
      refine ⟨⟨_, upd_same, fun x hx' => ?_, .cons ⟨rfl, r2⟩ .nil⟩, nz, by show 1 ≤ sizeLine; decide⟩
      have e2 : x = (kk, a, b2) := by simpa using hx'
      subst e2
      exact ⟨nk.kp (tkp _), hd⟩
end
end U
namespace U
open PySem PySem.Spec PyProof.Rows L2
section
variable {prog : Program} {w : World} {A : Around} {E : Value → Shared → Prop} {s : Shared} {K : PySem.W.Frag} {x C L f : Addr} {h₀ : Heap} {m : Str → Option Value} {ox : Obj} {od : Option Obj} {b : Value}
open PySem.W Builtin in
theorem objne_K {Q : Value → Shared → Prop} (hu : A.in1.units < cLine) (X : K.In s.heap) (I : InstAt s.heap x ox C od) (hm : mroIn K C (.type "object") = some true) (hs : findIn K (.ref C) "__eq__" = some (some (.ref f))) (hf : isFn K (.ref f) = true)
    (h : wpAny (model prog w) A.in1 (call (.ref f) [.ref x, b]) (fun v s' => ∃ c, v = .bool c ∧ Q (.bool (!c)) s') E s) : wpAny (model prog w) A (call (.builtin "object.__ne__") [.ref x, b]) Q E s := by
  refine wpAny_call (codeAny_call_builtin PySem.F.cmp_object.ne.plain PySem.F.cmpEntry_ne (check_slot (i := "object.__ne__") (owner := "object") (n := "__ne__") (by decide +kernel) (by decide +kernel) (I.type.andThen (looks_mroIn X hm)) (PySem.F.cmpArgs_ne _ _) ?_))
  unfold Builtin.«object.__ne__»
  refine wpAny_bind (m := slotArgs "__ne__" 1 _) (wpAny_pure ?_)
  refine wpAny_bind (m := cRoomFor _ _) (wpAny_cRoomFor hu ?_)
  refine wpAny_bind (m := callSpecialIfBound? (.ref x) (Str.ofString "__eq__") _) (ifBound_K X I hs hf (wpAny_mono h (fun r s' hq => ?_) fun _ _ y => y))
  obtain ⟨c, rfl, q⟩ := hq
  exact wpAny_bind (wpAny_truthy_bool (wpAny_pure q))
open PySem.W in
theorem ne_K {Q : Value → Shared → Prop} (hu : A.units + 1 < cLine) (F : Fr h₀ L s.heap m) (X₀ : K.In h₀) (I : InstAt s.heap x ox C od) (hb : Looks (model prog w) s.heap (typeOf b) (.ref C)) (hm : mroIn K C (.type "object") = some true)
    (hn : findIn K (.ref C) "__ne__" = some (some (.builtin "object.__ne__"))) (hs : findIn K (.ref C) "__eq__" = some (some (.ref f))) (hf : isFn K (.ref f) = true)
    (h : wpAny (model prog w) A.in1 (call (.ref f) [.ref x, b]) (fun v s' => ∃ c, v = .bool c ∧ Q (.bool (!c)) s') E s) : wpAny (model prog w) A (richCompare .NotEq (.ref x) b) Q E s := by
  have X := X₀.keeps F.keep
  have bnd : ∀ {Q' : Option Value → Shared → Prop}, wpAny (model prog w) A (call (.builtin "object.__ne__") [.ref x, b]) (fun v => Q' (some v)) E s → wpAny (model prog w) A (callSpecialIfBound? (.ref x) "__ne__" [b]) Q' E s := fun {Q'} h' => by
    simp only [callSpecialIfBound?, bindSpecialIfBound?]
    refine wpAny_holding (wpAny_bind (wpAny_bind (wpAny_bind (I.type.here ((looks_findIn X hn).here ?_)))))
    refine wpAny_bind (wpAny_askSetting (wpAny_ite ?_))
    have fin : wpAny (model prog w) A (call (.builtin "object.__ne__") ([.ref x] ++ [b]) >>= fun v => pure (some v)) Q' E s := wpAny_bind (wpAny_mono h' (fun v s' h' => wpAny_pure h') fun _ _ h' => h')
    split
    · exact wpAny_bind ((Looks.of_pure (PySem.F.cmp_object.ne.bind (.ref x))).here (wpAny_pure (by exact fin)))
    · exact wpAny_tryCatch (wpAny_bind ((Looks.of_pure (PySem.F.cmp_object.ne.bind (.ref x))).here (wpAny_pure (by exact fin))))
  have one : wpAny (model prog w) A (tryCompare (.ref x) "__ne__" b) (fun r s' => ∃ v, r = some v ∧ Q v s') E s := by
    unfold tryCompare
    refine wpAny_bind (bnd (objne_K (by show A.units + 1 < cLine; exact hu) X I hm hs hf (wpAny_mono h (fun v s' hv => ?_) fun _ _ e => e)))
    obtain ⟨c, rfl, q⟩ := hv
    exact ⟨c, rfl, wpAny_pure ⟨_, rfl, q⟩⟩
  unfold richCompare
  simp only [oneThing_ref]
  refine wpAny_holding (wpAny_bind (wpAny_cRoomFor (Nat.lt_of_succ_lt hu) ?_))
  refine wpAny_bind (I.type.here (wpAny_bind (hb.here ?_)))
  rw [show (Value.ref C != Value.ref C) = false from by simp]
  simp only [Bool.false_eq_true, if_false]
  refine wpAny_bind (wpAny_pure ?_)
  simp only [Bool.false_eq_true, if_false]
  refine wpAny_bind (wpAny_mono one (fun r s' z => ?_) fun _ _ e => e)
  obtain ⟨v, rfl, hq⟩ := z
  exact wpAny_pure hq
end
/-- an own method under a special name -/
structure OwnM (K : PySem.W.Frag) (C : Addr) (n : Str) (f : Addr) : Prop where
  at_ : PySem.W.findIn K (.ref C) n = some (some (.ref f))
  fn : PySem.W.isFn K (.ref f) = true
section
variable {X : Cx} {CX : CXT} {k : Nat} {f C : Addr} {fd : FuncData} {ps : List Str} {sp : Sp} {E : XK}
def rOwnIn (C : Addr) (sp : Sp) (E : XK) : R2 := fun x y H Q => ∃ a dx fs, y = .ref a ∧ H a = some (.ins C dx fs) ∧ sp [.ref a, x] H (fun z H' => ∃ c, z = .bl c ∧ Q (.bl c) H') E
theorem op_ownin (F : FnOk X.prog X.w X.K X.mg X.base CX k f fd ps sp) (hr : Room k X.A) (o : OwnM X.K C "__contains__" f) (hb : Binds X.K fd ps []) (hx : Passes CX X E) : OpR X (compareOp .In) (rOwnIn C sp E) := by
  intro pins s σ H x y v u Q I rx ry h
  obtain ⟨a, dx, fs, rfl, ha, q⟩ := h
  cases ry
  obtain ⟨mA, J, _⟩ := ins_get I.hok ha
  obtain ⟨od, J, _⟩ := J.look
  obtain ⟨m, hF⟩ := I.fr
  have r2 : Vals [V.ref a, x] [Value.ref a, v] := .cons rfl (.cons rx .nil)
  have z := run_fn (Q := fun z H' => ∃ c, z = .bl c ∧ Q (.bl c) H') F hr hb .nil hx I r2 (by exact q)
  refine PySem.W.in_K hF I.ok.mod.kin J o.at_ o.fn (thn z fun r s' ⟨z, H', I', rz, c, ez, q'⟩ => ?_)
  subst ez
  cases rz
  exact wpAny_truthy_bool ⟨.bl c, H', I', rfl, q'⟩
def rOwnEq (C : Addr) (sp : Sp) (E : XK) : R2 := fun x y H Q => ∃ a dx fs b dy gs, x = .ref a ∧ y = .ref b ∧ H a = some (.ins C dx fs) ∧ H b = some (.ins C dy gs) ∧ sp [.ref a, .ref b] H (fun z H' => ∃ c, z = .bl c ∧ Q (.bl c) H') E
theorem op_owneq (F : FnOk X.prog X.w X.K X.mg X.base CX k f fd ps sp) (hr : Room k X.A) (o : OwnM X.K C "__eq__" f) (hb : Binds X.K fd ps []) (hx : Passes CX X E) : OpR X (compareOp .Eq) (rOwnEq C sp E) := by
  intro pins s σ H x y v u Q I rx ry h
  obtain ⟨a, dx, fs, b, dy, gs, rfl, rfl, ha, hb', q⟩ := h
  cases rx
  cases ry
  obtain ⟨mA, J, _⟩ := ins_get I.hok ha
  obtain ⟨mB, J', _⟩ := ins_get I.hok hb'
  obtain ⟨od, J, _⟩ := J.look
  obtain ⟨od', J', _⟩ := J'.look
  obtain ⟨m, hF⟩ := I.fr
  show wpAny _ _ (richCompare .Eq (.ref a) (.ref b)) _ _ _
  have r2 : Vals [V.ref a, V.ref b] [Value.ref a, Value.ref b] := .cons rfl (.cons rfl .nil)
  have z := run_fn (Q := fun z H' => ∃ c, z = .bl c ∧ Q (.bl c) H') F hr hb .nil hx I r2 (by exact q)
  refine PySem.W.cmp_K (op := .Eq) (tb := .ref C) hr.units0 hF I.ok.mod.kin J J'.type (by simp [PySem.W.notFirst]) o.at_ o.fn (thn z fun r s' ⟨z, H', I', rz, c, ez, q'⟩ => ?_)
  subst ez
  cases rz
  exact ⟨.bl c, H', I', rfl, q'⟩
def rOwnNe (C : Addr) (sp : Sp) (E : XK) : R2 := fun x y H Q => ∃ a dx fs b dy gs, x = .ref a ∧ y = .ref b ∧ H a = some (.ins C dx fs) ∧ H b = some (.ins C dy gs) ∧ sp [.ref a, .ref b] H (fun z H' => ∃ c, z = .bl c ∧ Q (.bl (!c)) H') E
theorem op_ownne (F : FnOk X.prog X.w X.K X.mg X.base CX k f fd ps sp) (hr : Room (k + 1) X.A) (o : OwnM X.K C "__eq__" f) (hn : PySem.W.findIn X.K (.ref C) "__ne__" = some (some (.builtin "object.__ne__"))) (hm : PySem.W.mroIn X.K C (.type "object") = some true)
    (hb : Binds X.K fd ps []) (hx : Passes CX X E) : OpR X (compareOp .NotEq) (rOwnNe C sp E) := by
  intro pins s σ H x y v u Q I rx ry h
  obtain ⟨a, dx, fs, b, dy, gs, rfl, rfl, ha, hb', q⟩ := h
  cases rx
  cases ry
  obtain ⟨mA, J, _⟩ := ins_get I.hok ha
  obtain ⟨mB, J', _⟩ := ins_get I.hok hb'
  obtain ⟨od, J, _⟩ := J.look
  obtain ⟨od', J', _⟩ := J'.look
  obtain ⟨m, hF⟩ := I.fr
  show wpAny _ _ (richCompare .NotEq (.ref a) (.ref b)) _ _ _
  refine ne_K (by have := hr.un; omega) hF I.ok.mod.kin J J'.type hm hn o.at_ o.fn ?_
  have e0 : Env0 X.prog X.w X.K X.mg X.base X.A.in1 X.stack s H := I.env0.in1
  have hl := F.len _ _ _ _ q
  have r2 : Vals [V.ref a, V.ref b] [Value.ref a, Value.ref b] := .cons rfl (.cons rfl .nil)
  refine wpAny_call (codeAny_mono (F.run X.A.in1 X.stack s H ⟨[.ref a, .ref b], []⟩ [.ref a, .ref b] [.ref a, .ref b] _ E hr.in1 e0 (by
    have := hb s [.ref a, .ref b] I.kIn (by simpa using hl)
    simpa using this) r2 q) fun r s' hq => ?_)
  cases r with
  | error e => exact hx pins σ H s e s' I hq
  | ok fl =>
    cases fl with
    | ret w =>
      obtain ⟨z, H', I', rz, c, ez, q'⟩ := I.after hq
      subst ez
      cases rz
      exact ⟨c, rfl, .bl (!c), H', I', rfl, q'⟩
    | next => exact False.elim hq
    | brk => exact False.elim hq
    | cont => exact False.elim hq
end
end U
namespace U
open PySem PySem.Spec PyProof.Rows L2
/-- a list (false), a tuple (true) -/
def sq : Bool → List V → HO
  | false, xs => .lst xs
  | true, xs => .tup xs
def SqK (K : PySem.W.Frag) : Bool → Hp → Addr → List V → Prop
  | false => SqL K
  | true => SqT K
theorem SqK.of {K : PySem.W.Frag} {t : Bool} {H : Hp} {a : Addr} {xs : List V} (h : H a = some (sq t xs)) : SqK K t H a xs := by
  cases t with
  | false => exact SqL.of h
  | true => exact SqT.of h
section
variable {K : PySem.W.Frag} {D : Ends} {σ : L2.St} {H : Hp} {Q : VK} {g : TG} {tb : TS} {te : TE} {ta : TA}
theorem i_ixQ {p : Addr} {t : Bool} {xs : List V} {i : Int} {v : V} (h : H p = some (sq t xs)) (e : atI xs i = some v) (q : Q v H) : rIx K (.ref p) (.int i) H Q := by
  cases t with
  | false => exact i_ixL h e q
  | true => exact i_ixT h e q
theorem lenQ {p : Addr} {t : Bool} {xs : List V} (h : H p = some (sq t xs)) : LenV K (.ref p) H xs.length := by
  cases t with
  | false => exact .inl ⟨xs, SqL.of h, rfl⟩
  | true => exact .inr ⟨xs, SqT.of h, rfl⟩
def ForW (J : It) (g : TG) (tb : TS) (D : Ends) (σ : L2.St) (H : Hp) : Prop := ∃ W : Nat → Nat → L2.St → Hp → Prop, (∃ m, W 0 m σ H) ∧ ∀ i m σ H, W i m σ H →
  (J.stop i H ∧ D.nx σ H) ∨ (J.go i H ∧ ∃ N : L2.St → Hp → Prop, (∀ σ' H', N σ' H' → ∃ m', m' < m ∧ W (i + 1) m' σ' H') ∧ ∀ x H', J.yld i H x H' → g x σ H' fun σ2 H2 => tb { D with nx := N, ct := N, bk := D.nx } σ2 H2)
theorem i_for {wi : TI} (q : wi σ H fun J H1 => ForW J g tb D σ H1) : tFor wi g tb D σ H := q
/-- for, by a word on turn, slots and heap; Y: what the turn yields, G: what must stand for it to -/
theorem for_any {J : It} {n : Nat} (Pv : Nat → L2.St → Hp → Prop) (h0 : Pv 0 σ H) (hst : ∀ σ H, Pv n σ H → J.stop n H) (hgo : ∀ i σ H, i < n → Pv i σ H → J.go i H)
    (hs : ∀ i x σ H H', i < n → Pv i σ H → J.yld i H x H' → g x σ H' fun σ2 H2 => tb { D with nx := Pv (i + 1), ct := Pv (i + 1), bk := D.nx } σ2 H2) (hd : ∀ σ H, Pv n σ H → D.nx σ H) : ForW J g tb D σ H := by
  refine ⟨fun i m σ H => m = n - i ∧ i ≤ n ∧ Pv i σ H, ⟨n, by simp, Nat.zero_le _, h0⟩, ?_⟩
  rintro i m σ H ⟨rfl, hi, p⟩
  by_cases hlt : i < n
  · exact .inr ⟨hgo i σ H hlt p, Pv (i + 1), fun σ' H' p' => ⟨n - (i + 1), by omega, rfl, hlt, p'⟩, fun x H' y => hs i x σ H H' hlt p y⟩
  · have e : i = n := by omega
    subst e
    exact .inl ⟨hst σ H p, hd σ H p⟩
def LcW (J : It) (g : TG) (tt : TT) (te : TE) (vs : List Nat) (σ : L2.St) (H1 : Hp) (D : Addr) (Qd : Hp → Prop) : Prop := ∃ W : Nat → Nat → Hp → Prop, (∃ m, W 0 m (upd H1 D (.lst []))) ∧ ∀ i m H, W i m H →
  (J.stop i H ∧ Qd H) ∨ (J.go i H ∧ ∃ Nx : Hp → Prop, (∀ H', Nx H' → ∃ m', m' < m ∧ W (i + 1) m' H') ∧ ∀ x H', J.yld i H x H' → g x (wipe σ vs) H' fun σ2 H2 => wipe σ2 vs = wipe σ vs ∧ tt σ2 H2 fun b H3 =>
    if b = true then te σ2 H3 fun y H4 => ∃ acc, H4 D = some (.lst acc) ∧ acc.length < sizeLine ∧ Nx (upd H4 D (.lst (acc ++ [y]))) else Nx H3)
theorem i_lc {wi : TI} {tt : TT} {vs : List Nat} (q : wi σ H fun J H1 => ∀ D, H1 D = none → LcW J g tt te vs σ H1 D (Q (.ref D))) : tLc wi g tt te vs σ H Q := q
/-- over anything that goes n turns: what has come into being at D (the list, so long), what stands besides -/
theorem lc_any {J : It} {n : Nat} {tt : TT} {vs : List Nat} {D : Addr} {Qd : Hp → Prop} (Pv : Nat → Hp → Prop) (h0 : Pv 0 (upd H D (.lst [])))
    (hst : ∀ H, Pv n H → J.stop n H) (hgo : ∀ i H, i < n → Pv i H → J.go i H)
    (hs : ∀ i x H H', i < n → Pv i H → J.yld i H x H' → g x (wipe σ vs) H' fun σ2 H2 => wipe σ2 vs = wipe σ vs ∧ tt σ2 H2 fun b H3 =>
      if b = true then te σ2 H3 fun y H4 => ∃ acc, H4 D = some (.lst acc) ∧ acc.length < sizeLine ∧ Pv (i + 1) (upd H4 D (.lst (acc ++ [y]))) else Pv (i + 1) H3)
    (hd : ∀ H, Pv n H → Qd H) : LcW J g tt te vs σ H D Qd := by
  refine ⟨fun i m H => m = n - i ∧ i ≤ n ∧ Pv i H, ⟨n, by simp, Nat.zero_le _, h0⟩, ?_⟩
  rintro i m H ⟨rfl, hi, p⟩
  by_cases hlt : i < n
  · exact .inr ⟨hgo i H hlt p, Pv (i + 1), fun H' p' => ⟨n - (i + 1), by omega, rfl, hlt, p'⟩, fun x H' y => hs i x H H' hlt p y⟩
  · have e : i = n := by omega
    subst e
    exact .inl ⟨hst H p, hd H p⟩
def ISeq (K : PySem.W.Frag) (R : It → Hp → Prop) (x : V) (H1 : Hp) : Prop := ∃ a, x = .ref a ∧ (((∃ xs, SqL K H1 a xs) ∧ R (Itl K a) H1) ∨ ((∃ xs, SqT K H1 a xs) ∧ R (Itt K a) H1))
theorem i_iSeq {tl : TE} {R : It → Hp → Prop} (q : tl σ H (ISeq K R)) : iSeq K tl σ H R := q
theorem i_iRng1 {R : It → Hp → Prop} (q : ta σ H fun vs H1 => ∃ j : Int, vs = [.int j] ∧ -(2 ^ 62) ≤ j ∧ j < 2 ^ 62 ∧ R (Itr 0 j.toNat) H1) : iRng1 ta σ H R := q
theorem i_iRng2 {R : It → Hp → Prop} (q : ta σ H fun vs H1 => ∃ i j : Int, vs = [.int i, .int j] ∧ (-(2 ^ 62) ≤ i ∧ i < 2 ^ 62 ∧ -(2 ^ 62) ≤ j ∧ j < 2 ^ 62) ∧ R (Itr i (j - i).toNat) H1) : iRng2 ta σ H R := q
theorem i_iStr {tl : TE} {R : It → Hp → Prop} (q : tl σ H fun v H1 => ∃ x, v = .str x ∧ R (Its x) H1) : iStr tl σ H R := q
theorem i_iEnumS {R : It → Hp → Prop} (q : ta σ H fun vs H1 => ∃ z, vs = [.str z] ∧ R (IteS z) H1) : iEnumS ta σ H R := q
theorem i_iEnumR {R : It → Hp → Prop} (q : ta σ H fun vs H1 => ∃ a, vs = [.ref a] ∧ (((∃ xs, SqL K H1 a xs) ∧ R (Ite K a) H1) ∨ ((∃ xs, SqT K H1 a xs) ∧ R (IteT K a) H1))) : iEnumR K ta σ H R := q
theorem ex_rng1 {j : Nat} {R : Nat → Prop} (h : j < 2 ^ 62) (r : R j) : ∃ i : Int, [V.int (j : Int)] = [.int i] ∧ -(2 ^ 62) ≤ i ∧ i < 2 ^ 62 ∧ R i.toNat := ⟨j, rfl, by omega, by omega, by rw [Int.toNat_natCast]; exact r⟩
theorem ex_rng1i {j : Int} {R : Nat → Prop} (h0 : 0 ≤ j) (h : j < 2 ^ 62) (r : ∀ n : Nat, (n : Int) = j → R n) : ∃ i : Int, [V.int j] = [.int i] ∧ -(2 ^ 62) ≤ i ∧ i < 2 ^ 62 ∧ R i.toNat := ⟨j, rfl, by omega, by omega, r _ (by omega)⟩
theorem ex_str {z : Str} {P : Str → Prop} (h : P z) : ∃ x, V.str z = .str x ∧ P x := ⟨z, rfl, h⟩
theorem ex_str1 {z : Str} {P : Str → Prop} (h : P z) : ∃ x, [V.str z] = [.str x] ∧ P x := ⟨z, rfl, h⟩
section
variable {a : Addr} {t : Bool} {xs : List V}
theorem seq_for (h : H a = some (sq t xs)) (Pv : Nat → L2.St → Hp → Prop) (h0 : Pv 0 σ H) (hl : ∀ i σ H, i ≤ xs.length → Pv i σ H → H a = some (sq t xs))
    (hs : ∀ i x σ H, xs[i]? = some x → Pv i σ H → g x σ H fun σ2 H2 => tb { D with nx := Pv (i + 1), ct := Pv (i + 1), bk := D.nx } σ2 H2) (hd : ∀ σ H, Pv xs.length σ H → D.nx σ H) : ISeq K (fun J H1 => ForW J g tb D σ H1) (.ref a) H := by
  refine ⟨a, rfl, ?_⟩
  cases t with
  | false => exact .inl ⟨⟨xs, SqL.of h⟩, for_list (K := K) (a := a) (xs := xs) Pv h0 (fun i σ H hi p => SqL.of (hl i σ H hi p)) hs hd⟩
  | true => exact .inr ⟨⟨xs, SqT.of h⟩, for_tup (K := K) (a := a) (xs := xs) Pv h0 (fun i σ H hi p => SqT.of (hl i σ H hi p)) hs hd⟩
theorem seq_lc {tt : TT} {vs : List Nat} {Qd : Addr → Hp → Prop} (h : H a = some (sq t xs)) (r : ∀ D, H D = none → ∃ Pv : Nat → Hp → Prop, Pv 0 (upd H D (.lst [])) ∧ (∀ i H, i ≤ xs.length → Pv i H → H a = some (sq t xs)) ∧
    (∀ i x H, xs[i]? = some x → Pv i H → g x (wipe σ vs) H fun σ2 H2 => wipe σ2 vs = wipe σ vs ∧ tt σ2 H2 fun b H3 =>
      if b = true then te σ2 H3 fun y H4 => ∃ acc, H4 D = some (.lst acc) ∧ acc.length < sizeLine ∧ Pv (i + 1) (upd H4 D (.lst (acc ++ [y]))) else Pv (i + 1) H3) ∧
    ∀ H, Pv xs.length H → Qd D H) : ISeq K (fun J H1 => ∀ D, H1 D = none → LcW J g tt te vs σ H1 D (Qd D)) (.ref a) H := by
  refine ⟨a, rfl, ?_⟩
  cases t with
  | false =>
    refine .inl ⟨⟨xs, SqL.of h⟩, fun D hD => ?_⟩
    obtain ⟨Pv, h0, hl, hs, hd⟩ := r D hD
    exact lc_list (K := K) (a := a) (xs := xs) Pv h0 (fun i H hi p => SqL.of (hl i H hi p)) hs hd
  | true =>
    refine .inr ⟨⟨xs, SqT.of h⟩, fun D hD => ?_⟩
    obtain ⟨Pv, h0, hl, hs, hd⟩ := r D hD
    exact lc_tup (K := K) (a := a) (xs := xs) Pv h0 (fun i H hi p => SqT.of (hl i H hi p)) hs hd
theorem rng_for {lo : Int} {n : Nat} (Pv : Nat → L2.St → Hp → Prop) (h0 : Pv 0 σ H)
    (hs : ∀ i σ H, i < n → Pv i σ H → g (.int (lo + i)) σ H fun σ2 H2 => tb { D with nx := Pv (i + 1), ct := Pv (i + 1), bk := D.nx } σ2 H2) (hd : ∀ σ H, Pv n σ H → D.nx σ H) : ForW (Itr lo n) g tb D σ H := for_range Pv h0 hs hd
theorem rng0_for {n : Nat} (Pv : Nat → L2.St → Hp → Prop) (h0 : Pv 0 σ H)
    (hs : ∀ i σ H, i < n → Pv i σ H → g (.int (i : Int)) σ H fun σ2 H2 => tb { D with nx := Pv (i + 1), ct := Pv (i + 1), bk := D.nx } σ2 H2) (hd : ∀ σ H, Pv n σ H → D.nx σ H) : ForW (Itr 0 n) g tb D σ H :=
  for_range Pv h0 (fun i σ H hi p => by rw [Int.zero_add]; exact hs i σ H hi p) hd
theorem rng0_lc {n : Nat} {tt : TT} {vs : List Nat} {D : Addr} {Qd : Hp → Prop} (Pv : Nat → Hp → Prop) (h0 : Pv 0 (upd H D (.lst [])))
    (hs : ∀ i H, i < n → Pv i H → g (.int (i : Int)) (wipe σ vs) H fun σ2 H2 => wipe σ2 vs = wipe σ vs ∧ tt σ2 H2 fun b H3 =>
      if b = true then te σ2 H3 fun y H4 => ∃ acc, H4 D = some (.lst acc) ∧ acc.length < sizeLine ∧ Pv (i + 1) (upd H4 D (.lst (acc ++ [y]))) else Pv (i + 1) H3) (hd : ∀ H, Pv n H → Qd H) : LcW (Itr 0 n) g tt te vs σ H D Qd :=
  lc_range (lo := 0) Pv h0 (fun i H hi p => by rw [Int.zero_add]; exact hs i H hi p) hd
theorem str_for {z : Str} (Pv : Nat → L2.St → Hp → Prop) (h0 : Pv 0 σ H)
    (hs : ∀ i c σ H, z.cps[i]? = some c → Pv i σ H → g (.str ⟨#[c]⟩) σ H fun σ2 H2 => tb { D with nx := Pv (i + 1), ct := Pv (i + 1), bk := D.nx } σ2 H2) (hd : ∀ σ H, Pv z.cps.size σ H → D.nx σ H) : ForW (Its z) g tb D σ H := by
  refine for_any (n := z.cps.size) Pv h0 (fun _ _ _ => Nat.le_refl _) (fun _ _ _ h _ => h) (fun i x σ H H' hi p y => ?_) hd
  obtain ⟨rfl, c, hc, rfl⟩ := y
  exact hs i c σ _ hc p
theorem str_lc {z : Str} {tt : TT} {vs : List Nat} {D : Addr} {Qd : Hp → Prop} (Pv : Nat → Hp → Prop) (h0 : Pv 0 (upd H D (.lst [])))
    (hs : ∀ i c H, z.cps[i]? = some c → Pv i H → g (.str ⟨#[c]⟩) (wipe σ vs) H fun σ2 H2 => wipe σ2 vs = wipe σ vs ∧ tt σ2 H2 fun b H3 =>
      if b = true then te σ2 H3 fun y H4 => ∃ acc, H4 D = some (.lst acc) ∧ acc.length < sizeLine ∧ Pv (i + 1) (upd H4 D (.lst (acc ++ [y]))) else Pv (i + 1) H3) (hd : ∀ H, Pv z.cps.size H → Qd H) : LcW (Its z) g tt te vs σ H D Qd := by
  refine lc_any (n := z.cps.size) Pv h0 (fun _ _ => Nat.le_refl _) (fun _ _ h _ => h) (fun i x H H' hi p y => ?_) hd
  obtain ⟨rfl, c, hc, rfl⟩ := y
  exact hs i c _ hc p
theorem enumS_for {z : Str} (Pv : Nat → L2.St → Hp → Prop) (h0 : Pv 0 σ H)
    (hs : ∀ i c T σ H, z.cps[i]? = some c → Pv i σ H → H T = none → g (.ref T) σ (upd H T (.tup [.int (i : Nat), .str ⟨#[c]⟩])) fun σ2 H2 => tb { D with nx := Pv (i + 1), ct := Pv (i + 1), bk := D.nx } σ2 H2) (hd : ∀ σ H, Pv z.cps.size σ H → D.nx σ H) : ForW (IteS z) g tb D σ H := by
  refine for_any (n := z.cps.size) Pv h0 (fun _ _ _ => rfl) (fun _ _ _ h _ => h) (fun i x σ H H' hi p y => ?_) hd
  obtain ⟨T, c, rfl, hT, rfl, hc⟩ := y
  exact hs i c T σ _ hc p hT
theorem enumR_for (h : H a = some (sq t xs)) (Pv : Nat → L2.St → Hp → Prop) (h0 : Pv 0 σ H) (hl : ∀ i σ H, i ≤ xs.length → Pv i σ H → H a = some (sq t xs))
    (hs : ∀ i x T σ H, xs[i]? = some x → Pv i σ H → H T = none → g (.ref T) σ (upd H T (.tup [.int (i : Nat), x])) fun σ2 H2 => tb { D with nx := Pv (i + 1), ct := Pv (i + 1), bk := D.nx } σ2 H2) (hd : ∀ σ H, Pv xs.length σ H → D.nx σ H) :
    ∃ a', [V.ref a] = [.ref a'] ∧ (((∃ xs, SqL K H a' xs) ∧ ForW (Ite K a') g tb D σ H) ∨ ((∃ xs, SqT K H a' xs) ∧ ForW (IteT K a') g tb D σ H)) := by
  refine ⟨a, rfl, ?_⟩
  cases t with
  | false =>
    refine .inl ⟨⟨xs, SqL.of h⟩, for_any (n := xs.length) Pv h0 (fun σ H p => ⟨xs, SqL.of (hl _ σ H (Nat.le_refl _) p), Nat.le_refl _⟩) (fun i σ H hi p => ⟨xs, xs[i], SqL.of (hl _ σ H (Nat.le_of_lt hi) p), by simp [hi]⟩) (fun i x σ H H' hi p y => ?_) hd⟩
    obtain ⟨T, z, rfl, hT, rfl, hz⟩ := y
    exact hs i z T σ _ (hz xs (SqL.of (hl _ σ H (Nat.le_of_lt hi) p))) p hT
  | true =>
    refine .inr ⟨⟨xs, SqT.of h⟩, for_any (n := xs.length) Pv h0 (fun σ H p => ⟨xs, SqT.of (hl _ σ H (Nat.le_refl _) p), rfl⟩) (fun i σ H hi p => ⟨xs, xs[i], SqT.of (hl _ σ H (Nat.le_of_lt hi) p), by simp [hi]⟩) (fun i x σ H H' hi p y => ?_) hd⟩
    obtain ⟨T, z, rfl, hT, rfl, hz⟩ := y
    exact hs i z T σ _ (hz xs (SqT.of (hl _ σ H (Nat.le_of_lt hi) p))) p hT
end
theorem i_chain {r r' : R2} {tb' tc : TE} (q : te σ H fun x H1 => tb' σ H1 fun y H2 => r x y H2 fun z H3 => ∃ k, z = .bl k ∧ (if k = true then tc σ H3 fun w' H4 => r' y w' H4 Q else Q (.bl false) H3)) : tChain r r' te tb' tc σ H Q := q
theorem i_m1 {r : V → List V → Hp → VK → Prop} {to te : TE} (q : to σ H fun x H1 => (∃ a, x = .str a) ∧ te σ H1 fun y H2 => r x [y] H2 Q) : tM1 r to te σ H Q := q
theorem i_bms {T : String} {r : L2.St → V → List V → Hp → VK → Prop} {to : TE} {t : TA} (q : to σ H fun x H1 => tyV K T x H1 ∧ t σ H1 fun xs H2 => r σ x xs H2 Q) : tBMS K T r to t σ H Q := q
/-- isinstance(x, a built-in class) -/
theorem i_isi {x : V} {a b : String} {r : Bool} (ty : TyX K H x (.type a)) (h : kitB a b = some r) (q : Q (.bl r) H) : rIsi K [x, .ty b] H Q := ⟨x, .ty b, .type a, .type b, r, rfl, .ty b, ty, kit_ty h, q⟩
theorem ty_sq {p : Addr} {t : Bool} {xs : List V} (h : H p = some (sq t xs)) : TyX K H (.ref p) (.type (if t then "tuple" else "list")) := by
  cases t with
  | false => exact .base (.lst h)
  | true => exact .base (.tup h)
end
section
variable {K : PySem.W.Frag} {H : Hp} {Q : VK} {A B : Prop}
theorem iteNF (h : A) : if (!false) = true then A else B := by rw [if_pos (by rfl)]; exact h
theorem iteNT (h : B) : if (!true) = true then A else B := by rw [if_neg (by decide)]; exact h
theorem i_isiTL {p tp : Addr} {t : Bool} {xs : List V} (h : H p = some (sq t xs)) (ht : H tp = some (.tup [.ty "tuple", .ty "list"])) (q : Q (.bl true) H) : rIsiT K [.ref p, .ref tp] H Q := by
  refine ⟨.ref p, tp, [.ty "tuple", .ty "list"], .type (if t then "tuple" else "list"), [.type "tuple", .type "list"], true, rfl, ht, .cons (.ty _) (.cons (.ty _) .nil), ty_sq h, ?_, q⟩
  cases t with
  | false => exact kitAny_cons (b := false) (kit_ty (by decide +kernel)) (fun _ => kitAny_cons (b := true) (kit_ty (by decide +kernel)) (fun z => by cases z) fun _ => rfl) fun z => by cases z
  | true => exact kitAny_cons (b := true) (kit_ty (by decide +kernel)) (fun z => by cases z) fun _ => rfl
theorem i_all {a : Addr} {bs : List Bool} {r : Bool} (h : H a = some (.lst (bs.map V.bl))) (e : bs.all id = r) (q : Q (.bl r) H) : rAll K [.ref a] H Q := ⟨a, bs, rfl, SqL.of h, by rw [e]; exact q⟩
theorem i_any {a : Addr} {bs : List Bool} {r : Bool} (h : H a = some (.lst (bs.map V.bl))) (e : bs.any id = r) (q : Q (.bl r) H) : rAny K [.ref a] H Q := ⟨a, bs, rfl, SqL.of h, by rw [e]; exact q⟩
theorem all_rep (n : Nat) : (List.replicate n true).all id = true := by simp
theorem any_rep (n : Nat) : (List.replicate n false).any id = false := by simp
theorem map_rep (n : Nat) (b : Bool) : List.replicate n (V.bl b) = (List.replicate n b).map V.bl := by simp
theorem rep_snoc {α : Type} (n : Nat) (x : α) : List.replicate n x ++ [x] = List.replicate (n + 1) x := by
  rw [List.replicate_succ']
end
abbrev vn (n : Nat) : V := .int (n : Int)
/-- an alphabet's codes -/
structure AlOk (al : List Nat) : Prop where
  pos : 1 ≤ al.length
  le : al.length ≤ 3
  small : ∀ c ∈ al, 97 ≤ c ∧ c ≤ 122
  inc : al.Pairwise (· < ·)
theorem small_mem {c : Nat} (h : 97 ≤ c ∧ c ≤ 122) : c ∈ ("abcdefghijklmnopqrstuvwxyz" : Str).cps.toList := by
  have z : ∀ d : Nat, d < 123 → 97 ≤ d → d ∈ ("abcdefghijklmnopqrstuvwxyz" : Str).cps.toList := by decide +kernel
  exact z c (by omega) h.1
def Ints (T : AS) (H : Hp) (p : Addr) (ns : List Nat) : Prop := ¬ T p ∧ ∃ t, H p = some (sq t (ns.map vn))
def IntsT (T : AS) (H : Hp) (p : Addr) (ns : List Nat) : Prop := ¬ T p ∧ H p = some (.tup (ns.map vn))
theorem IntsT.ints {T : AS} {H : Hp} {p : Addr} {ns : List Nat} (h : IntsT T H p ns) : Ints T H p ns := ⟨h.1, true, h.2⟩
def Rows (T : AS) (H : Hp) (p : Addr) (rs : List (List Nat)) : Prop := ¬ T p ∧ ∃ t as, H p = some (sq t (as.map V.ref)) ∧ Paired (fun a r => Ints T H a r) as rs
def RowsT (T : AS) (H : Hp) (p : Addr) (rs : List (List Nat)) : Prop := ¬ T p ∧ ∃ as, H p = some (.tup (as.map V.ref)) ∧ Paired (fun a r => IntsT T H a r) as rs
theorem RowsT.rows {T : AS} {H : Hp} {p : Addr} {rs : List (List Nat)} (h : RowsT T H p rs) : Rows T H p rs := let ⟨h1, as, h2, h3⟩ := h; ⟨h1, true, as, h2, Paired.mapP h3 fun _ _ z => z.ints⟩
section
variable {T T' : AS} {H H' : Hp} {p : Addr} {ns : List Nat} {rs : List (List Nat)}
theorem Ints.kp (h : Ints T H p ns) (k : Kp T' H H') (i : ∀ b, T' b → T b) : Ints T H' p ns := ⟨h.1, let ⟨t, e⟩ := h.2; ⟨t, k _ _ (fun z => h.1 (i _ z)) e⟩⟩
theorem IntsT.kp (h : IntsT T H p ns) (k : Kp T' H H') (i : ∀ b, T' b → T b) : IntsT T H' p ns := ⟨h.1, k _ _ (fun z => h.1 (i _ z)) h.2⟩
theorem Rows.kp (h : Rows T H p rs) (k : Kp T' H H') (i : ∀ b, T' b → T b) : Rows T H' p rs := let ⟨h1, t, as, h2, h3⟩ := h; ⟨h1, t, as, k _ _ (fun z => h1 (i _ z)) h2, Paired.mapP h3 fun _ _ z => z.kp k i⟩
theorem RowsT.kp (h : RowsT T H p rs) (k : Kp T' H H') (i : ∀ b, T' b → T b) : RowsT T H' p rs := let ⟨h1, as, h2, h3⟩ := h; ⟨h1, as, k _ _ (fun z => h1 (i _ z)) h2, Paired.mapP h3 fun _ _ z => z.kp k i⟩
theorem Ints.weak (h : Ints T H p ns) (i : ∀ b, T' b → T b) : Ints T' H p ns := ⟨fun z => h.1 (i _ z), h.2⟩
theorem IntsT.weak (h : IntsT T H p ns) (i : ∀ b, T' b → T b) : IntsT T' H p ns := ⟨fun z => h.1 (i _ z), h.2⟩
theorem Rows.weak (h : Rows T H p rs) (i : ∀ b, T' b → T b) : Rows T' H p rs := let ⟨h1, t, as, h2, h3⟩ := h; ⟨fun z => h1 (i _ z), t, as, h2, Paired.mapP h3 fun _ _ z => z.weak i⟩
theorem RowsT.weak (h : RowsT T H p rs) (i : ∀ b, T' b → T b) : RowsT T' H p rs := let ⟨h1, as, h2, h3⟩ := h; ⟨fun z => h1 (i _ z), as, h2, Paired.mapP h3 fun _ _ z => z.weak i⟩
theorem map_at {α : Type} {f : α → V} {xs : List α} {i : Nat} {x : α} (h : xs[i]? = some x) : (xs.map f)[i]? = some (f x) := by
  rw [List.getElem?_map, h]
  rfl
theorem at_map {α : Type} {f : α → V} {xs : List α} {i : Nat} {v : V} (h : (xs.map f)[i]? = some v) : ∃ x, xs[i]? = some x ∧ v = f x := by
  rw [List.getElem?_map] at h
  cases e : xs[i]? with
  | none => rw [e] at h; cases h
  | some x => rw [e] at h; exact ⟨x, rfl, (Option.some.inj h).symm⟩
theorem Paired.at1 {α β : Type} {F : α → β → Prop} : ∀ {xs : List α} {ys : List β} {i : Nat} {y : β}, Paired F xs ys → ys[i]? = some y → ∃ x, xs[i]? = some x ∧ F x y
  | _, _, _, _, .nil, h => by simp at h
  | _, _, 0, _, .cons r _, h => ⟨_, rfl, by simp at h; subst h; exact r⟩
  | _, _, i + 1, y, .cons _ t, h => by
    obtain ⟨x, h1, h2⟩ := Paired.at1 (i := i) (y := y) t (by simpa using h)
    exact ⟨x, by simpa using h1, h2⟩
theorem Paired.at0 {α β : Type} {F : α → β → Prop} : ∀ {xs : List α} {ys : List β} {i : Nat} {x : α}, Paired F xs ys → xs[i]? = some x → ∃ y, ys[i]? = some y ∧ F x y
  | _, _, _, _, .nil, h => by simp at h
  | _, _, 0, _, .cons r _, h => ⟨_, rfl, by simp at h; subst h; exact r⟩
  | _, _, i + 1, x, .cons _ t, h => by
    obtain ⟨y, h1, h2⟩ := Paired.at0 (i := i) (x := x) t (by simpa using h)
    exact ⟨y, by simpa using h1, h2⟩
theorem Paired.snoc {α β : Type} {F : α → β → Prop} : ∀ {xs : List α} {ys : List β} {x : α} {y : β}, Paired F xs ys → F x y → Paired F (xs ++ [x]) (ys ++ [y])
  | _, _, _, _, .nil, h => .cons h .nil
  | _, _, _, _, .cons r t, h => .cons r (Paired.snoc t h)
end
section
variable {X : Cx}
theorem ixK (K : PySem.W.Frag) (h : X.K = K) : IxR X (rIx K) := by subst h; exact ix_seq
def rLen (K : PySem.W.Frag) : List V → Hp → VK → Prop := fun xs H Q => ∃ x n, xs = [x] ∧ LenV K x H n ∧ Q (.int (n : Nat)) H
theorem lenK (K : PySem.W.Frag) (h : X.K = K) : CallR X (.builtin "len") (rLen K) := by subst h; exact call_len
theorem isiK (K : PySem.W.Frag) (h : X.K = K) : CallR X (.builtin "isinstance") (rIsi K) := by subst h; exact call_isi
theorem isiTK (K : PySem.W.Frag) (h : X.K = K) : CallR X (.builtin "isinstance") (rIsiT K) := by subst h; exact call_isiT
theorem inK (K : PySem.W.Frag) (h : X.K = K) : OpR X (compareOp .In) (rIn K false) := by subst h; exact op_in_seq
theorem notInK (K : PySem.W.Frag) (h : X.K = K) : OpR X (compareOp .NotIn) (rIn K true) := by subst h; exact op_notIn_seq
theorem eqDK (K : PySem.W.Frag) (h : X.K = K) (hu : X.A.units + 64 < cLine) : OpR X (compareOp .Eq) (rEqD K) := by subst h; exact op_eqD hu
theorem neDK (K : PySem.W.Frag) (h : X.K = K) (hu : X.A.units + 64 < cLine) : OpR X (compareOp .NotEq) (rNeD K) := by subst h; exact op_neD hu
def rListOf (K : PySem.W.Frag) : List V → Hp → VK → Prop := fun xs H Q => ∃ p ys, xs = [.ref p] ∧ (SqL K H p ys ∨ SqT K H p ys) ∧ ∀ l, H l = none → Q (.ref l) (upd H l (.lst ys))
theorem listK (K : PySem.W.Frag) (h : X.K = K) : CallR X (.type "list") (rListOf K) := by subst h; exact call_list_of
def rTupleOf (K : PySem.W.Frag) : List V → Hp → VK → Prop := fun xs H Q => ∃ p ys, xs = [.ref p] ∧ ((SqL K H p ys ∧ ∀ l, H l = none → Q (.ref l) (upd H l (.tup ys))) ∨ (SqT K H p ys ∧ Q (.ref p) H))
theorem tupleK (K : PySem.W.Frag) (h : X.K = K) : CallR X (.type "tuple") (rTupleOf K) := by subst h; exact call_tuple_of
theorem allK (K : PySem.W.Frag) (h : X.K = K) (hc : X.calm = true) : CallR X (.builtin "all") (rAll K) := by subst h; exact cr_all hc
theorem anyK (K : PySem.W.Frag) (h : X.K = K) (hc : X.calm = true) : CallR X (.builtin "any") (rAny K) := by subst h; exact cr_any hc
theorem slTK (K : PySem.W.Frag) (h : X.K = K) : SlR X (rSlA K) := by subst h; exact sl_tupA
theorem slLK (K : PySem.W.Frag) (h : X.K = K) : SlR X (rSlL K) := by subst h; exact sl_list
theorem catAK (K : PySem.W.Frag) (h : X.K = K) : OpR X (binaryOp .Add) (rCatA K) := by subst h; exact op_catA
theorem fldK (K : PySem.W.Frag) (h : X.K = K) {e : Expr} {te : TE} {f : Str} {pos : Pos} (he : PE X e te) (hb : attributeBase e f X.env (eval e X.env) = eval e X.env) : PE X (.Attribute e f pos) (tFld K te f) := by subst h; exact pe_fld he hb
theorem seqK (K : PySem.W.Frag) (h : X.K = K) {tg l : Expr} {tl : TE} (hl : PE X l tl) : PI X tg l (iSeq K tl) := by subst h; exact pi_seq hl
theorem enumRK (K : PySem.W.Frag) (h : X.K = K) {e : Expr} {ta : TA} {p pos tpos : Pos} {elts : List Expr} {kk : Nat} (hg : Gl X "enumerate") (hm : X.mg "enumerate" = none) (ha : PA X [e] ta) (hs : starEach [e] X.env = [(false, eval e X.env)] := by rfl) :
    PI X (.Tuple elts kk tpos) (.Call (.Name "enumerate" p) [e] [] pos) (iEnumR K ta) := by subst h; exact pi_enumR hg hm ha hs
theorem gTupK (K : PySem.W.Frag) (h : X.K = K) {es : List Expr} {k : Nat} {t : TGs} {pos : Pos} (hc : X.calm = true) (hg : PGs X es t) {n : Nat} (hn : PG X (.Tuple es k pos) (gTup X.K n t)) : PG X (.Tuple es k pos) (gTup K n t) := by subst h; exact hn
theorem bmK (K : PySem.W.Frag) (h : X.K = K) {o e : Expr} {es : List Expr} {to : TE} {t : TA} {name : Str} {apos cpos : Pos} {T : String} {r : V → List V → Hp → VK → Prop} (hh : PE X (.Call (.Attribute o name apos) (e :: es) [] cpos) (tBM X.K T r to t)) : PE X (.Call (.Attribute o name apos) (e :: es) [] cpos) (tBM K T r to t) := by subst h; exact hh
def rJoin (K : PySem.W.Frag) : V → List V → Hp → VK → Prop := fun x xs H Q => ∃ a p, ∃ ys : List Str, x = .str a ∧ xs = [.ref p] ∧ (SqL K H p (ys.map V.str) ∨ SqT K H p (ys.map V.str)) ∧ (ys.map (·.length)).sum + ys.length * a.length ≤ 16777216 ∧ Q (.str (Txt.join a ys)) H
theorem joinK (K : PySem.W.Frag) (h : X.K = K) {o e : Expr} {to te : TE} {apos pos : Pos} (ho : PE X o to) (he : PE X e te) (hs : starEach [e] X.env = [(false, eval e X.env)] := by rfl) (hbase : attributeBase o "join" X.env (eval o X.env) = eval o X.env := by rfl) (hline : (apos.endLine == pos.line) = true := by rfl) :
    PE X (.Call (.Attribute o "join" apos) [e] [] pos) (tM1 (rJoin K) to te) := by subst h; exact pe_join ho he hs hbase hline
def rInt1 : List V → Hp → VK → Prop := fun xs H Q => (∃ i, xs = [.int i] ∧ Q (.int i) H) ∨ ∃ k, xs = [.bl k] ∧ Q (.int (if k then 1 else 0)) H
theorem int1 : CallR X (.type "int") rInt1 := call_int1
def rLenN (P : Program) (w : World) : List V → Hp → VK → Prop := fun xs H Q => ∃ d kvs, xs = [V.ref d] ∧ NDict P w H d kvs ∧ Q (.int (kvs.length : Nat)) H
theorem lenNK (P : Program) (w : World) (hp : X.prog = P) (hw : X.w = w) : CallR X (.builtin "len") (rLenN P w) := by subst hp hw; exact call_lenN
def rLenD : List V → Hp → VK → Prop := fun xs H Q => ∃ a kvs, xs = [V.ref a] ∧ H a = some (.dK kvs) ∧ Q (.int (kvs.length : Nat)) H
theorem lenDK : CallR X (.builtin "len") rLenD := call_lenD
end
section
variable {K : PySem.W.Frag} {P : Program} {w : World} {H : Hp} {Q : VK} {σ : L2.St}
theorem i_lenQ {p : Addr} {t : Bool} {xs : List V} (h : H p = some (sq t xs)) (q : Q (.int (xs.length : Nat)) H) : rLen K [.ref p] H Q := ⟨_, _, rfl, lenQ h, q⟩
theorem i_lenL {p : Addr} {xs : List V} (h : H p = some (.lst xs)) (q : Q (.int (xs.length : Nat)) H) : rLen K [.ref p] H Q := ⟨_, _, rfl, lenQ (t := false) h, q⟩
theorem i_lenT {p : Addr} {xs : List V} (h : H p = some (.tup xs)) (q : Q (.int (xs.length : Nat)) H) : rLen K [.ref p] H Q := ⟨_, _, rfl, lenQ (t := true) h, q⟩
theorem i_lenS {z : Str} (h : z.length ≤ sizeLine) (q : Q (.int (z.length : Nat)) H) : rLen K [.str z] H Q := ⟨_, z.length, rfl, ⟨h, rfl⟩, q⟩
theorem i_int1 {i : Int} (q : Q (.int i) H) : rInt1 [.int i] H Q := .inl ⟨i, rfl, q⟩
theorem i_lenN {d : Addr} {kvs : List (NestedKey × V)} (n : NDict P w H d kvs) (q : Q (.int (kvs.length : Nat)) H) : rLenN P w [.ref d] H Q := ⟨d, kvs, rfl, n, q⟩
theorem i_lenD {d : Addr} {kvs : List (Key × V)} (n : H d = some (.dK kvs)) (q : Q (.int (kvs.length : Nat)) H) : rLenD [.ref d] H Q := ⟨d, kvs, rfl, n, q⟩
theorem i_listOf {p : Addr} {t : Bool} {ys : List V} (h : H p = some (sq t ys)) (q : ∀ l, H l = none → Q (.ref l) (upd H l (.lst ys))) : rListOf K [.ref p] H Q := by
  cases t with
  | false => exact ⟨p, ys, rfl, .inl (SqL.of h), q⟩
  | true => exact ⟨p, ys, rfl, .inr (SqT.of h), q⟩
/-- tuple(x): a new tuple, or x itself where x is one -/
theorem i_tupleOf {p : Addr} {t : Bool} {ys : List V} (h : H p = some (sq t ys)) (q : ∀ l H', H' l = some (.tup ys) → Same H H' → (H l = none ∨ (l = p ∧ t = true)) → Q (.ref l) H') : rTupleOf K [.ref p] H Q := by
  cases t with
  | false => exact ⟨p, ys, rfl, .inl ⟨SqL.of h, fun l hl => q l _ upd_same (same_laid hl) (.inl hl)⟩⟩
  | true => exact ⟨p, ys, rfl, .inr ⟨SqT.of h, q p H h (Same.refl H) (.inr ⟨rfl, rfl⟩)⟩⟩
theorem i_tupleOfL {p : Addr} {ys : List V} (h : H p = some (.lst ys)) (q : ∀ l, H l = none → Q (.ref l) (upd H l (.tup ys))) : rTupleOf K [.ref p] H Q := ⟨p, ys, rfl, .inl ⟨SqL.of h, q⟩⟩
theorem iteIN {i : Int} {A B : Prop} (h : B) : if decide (V.int i = V.non) = true then A else B := by
  rw [decide_eq_false (by intro z; cases z), if_neg Bool.false_ne_true]
  exact h
end
theorem i_yes {σ : L2.St} {H : Hp} {QB : Bool → Hp → Prop} (q : QB true H) : tYes σ H QB := q
theorem i_wipe {σ2 w : L2.St} {vs : List Nat} {R : Prop} (e : wipe σ2 vs = w) (r : R) : wipe σ2 vs = w ∧ R := ⟨e, r⟩
theorem upd_lst {H : Hp} {D : Addr} {xs ys zs : List V} (e : ys = zs) : upd (upd H D (.lst xs)) D (.lst ys) = upd H D (.lst zs) := by rw [upd_upd, e]
theorem S_at {al : List Nat} {i : Nat} {c : Nat} (h : al[i]? = some c) : atI (SX.S al).cps.toList (i : Int) = some c := atI_nat (by simpa [SX.S] using h)
theorem szl {n : Nat} (h : n ≤ 16777216) : n ≤ sizeLine := by rw [sizeLine_eq]; exact h
theorem szlt {n : Nat} (h : n < 16777216) : n < sizeLine := by rw [sizeLine_eq]; exact h
theorem ite_t {c : Bool} {A B : Prop} (e : c = true) (h : A) : if c = true then A else B := by subst e; exact iteT h
theorem ite_f {c : Bool} {A B : Prop} (e : c = false) (h : B) : if c = true then A else B := by subst e; exact iteF h
theorem ite_dt {c : Prop} [Decidable c] {A B : Prop} (e : c) (h : A) : if decide c = true then A else B := ite_t (decide_eq_true e) h
theorem ite_df {c : Prop} [Decidable c] {A B : Prop} (e : ¬ c) (h : B) : if decide c = true then A else B := ite_f (decide_eq_false e) h
theorem ite_ndt {c : Prop} [Decidable c] {A B : Prop} (e : ¬ c) (h : A) : if (!decide c) = true then A else B := ite_t (by rw [decide_eq_false e]; rfl) h
theorem ite_ndf {c : Prop} [Decidable c] {A B : Prop} (e : c) (h : B) : if (!decide c) = true then A else B := ite_f (by rw [decide_eq_true e]; rfl) h
/-- the end of a turn that leaves all but the new list -/
theorem lc_turn {H : Hp} {D : Addr} {xs ys : List V} {y : V} {Pv : Hp → Prop} (h : xs.length < 16777216) (e : xs ++ [y] = ys) (q : Pv (upd H D (.lst ys))) :
    ∃ acc, (upd H D (.lst xs)) D = some (.lst acc) ∧ acc.length < sizeLine ∧ Pv (upd (upd H D (.lst xs)) D (.lst (acc ++ [y]))) := ⟨xs, upd_same, szlt h, by rw [upd_upd, e]; exact q⟩
end U
namespace U
open PySem PySem.Spec PyProof.Rows L2
section
variable {α : Type} [DecidableEq α]
def addN (o : List α) (t : α) : List α := if t ∈ o then o else o ++ [t]
def addsN (o ts : List α) : List α := ts.foldl addN o
/-- each one once, by first places -/
def dd (l : List α) : List α := addsN [] l
theorem addsN_nil (o : List α) : addsN o [] = o := rfl
theorem addsN_snoc (o ts : List α) (t : α) : addsN o (ts ++ [t]) = addN (addsN o ts) t := by simp [addsN]
theorem addsN_app (o ts us : List α) : addsN o (ts ++ us) = addsN (addsN o ts) us := by simp [addsN]
theorem dd_snoc (l : List α) (t : α) : dd (l ++ [t]) = addN (dd l) t := addsN_snoc [] l t
theorem mem_addN {o : List α} {t x : α} : x ∈ addN o t ↔ x ∈ o ∨ x = t := by
  unfold addN
  split
  · exact ⟨.inl, fun h => h.elim id fun e => by rw [e]; assumption⟩
  · simp
theorem mem_addsN {o ts : List α} {x : α} : x ∈ addsN o ts ↔ x ∈ o ∨ x ∈ ts := by
  induction ts generalizing o with
  | nil => simp [addsN]
  | cons t ts ih =>
    show x ∈ addsN (addN o t) ts ↔ _
    rw [ih, mem_addN]
    simp [or_assoc]
theorem mem_dd {l : List α} {x : α} : x ∈ dd l ↔ x ∈ l := by
  unfold dd
  rw [mem_addsN]
  simp
theorem nd_addN {o : List α} {t : α} (h : o.Nodup) : (addN o t).Nodup := by
  unfold addN
  split
  · exact h
  · rename_i hn
    rw [List.nodup_append]
    exact ⟨h, by simp, fun a ha b hb e => hn (by rw [← List.mem_singleton.mp hb, ← e]; exact ha)⟩
theorem nd_addsN {o ts : List α} (h : o.Nodup) : (addsN o ts).Nodup := by
  induction ts generalizing o with
  | nil => exact h
  | cons t ts ih => exact ih (nd_addN h)
theorem nd_dd (l : List α) : (dd l).Nodup := nd_addsN List.nodup_nil
theorem addN_pre (o : List α) (t : α) : ∃ m, addN o t = o ++ m := by
  unfold addN
  split
  · exact ⟨[], by simp⟩
  · exact ⟨_, rfl⟩
theorem addsN_pre (o ts : List α) : ∃ m, addsN o ts = o ++ m := by
  induction ts generalizing o with
  | nil => exact ⟨[], by simp [addsN]⟩
  | cons t ts ih =>
    obtain ⟨m1, e1⟩ := addN_pre o t
    obtain ⟨m2, e2⟩ := ih (addN o t)
    exact ⟨m1 ++ m2, by show addsN (addN o t) ts = _; rw [e2, e1, List.append_assoc]⟩
theorem len_addN (o : List α) (t : α) : (addN o t).length ≤ o.length + 1 := by
  unfold addN
  split
  · omega
  · simp
theorem len_addsN (o ts : List α) : (addsN o ts).length ≤ o.length + ts.length := by
  induction ts generalizing o with
  | nil => simp [addsN]
  | cons t ts ih =>
    have h1 := ih (addN o t)
    have h2 := len_addN o t
    show (addsN (addN o t) ts).length ≤ _
    rw [List.length_cons]
    omega
theorem len_dd (l : List α) : (dd l).length ≤ l.length := by
  have := len_addsN [] l
  simpa [dd] using this
/-- the number of x by first places -/
def pl (l : List α) (x : α) : Nat := l.idxOf x
theorem pl_snoc_in {l : List α} {t x : α} (h : x ∈ l) : pl (l ++ [t]) x = pl l x := by
  unfold pl
  rw [List.idxOf_append, if_pos h]
theorem pl_snoc_new {l : List α} {t : α} (h : t ∉ l) : pl (l ++ [t]) t = l.length := by
  unfold pl
  rw [List.idxOf_append, if_neg h]
  simp
theorem pl_addN {l : List α} {t x : α} (h : x ∈ l) : pl (addN l t) x = pl l x := by
  unfold addN
  split
  · rfl
  · exact pl_snoc_in h
theorem pl_lt {l : List α} {x : α} (h : x ∈ l) : pl l x < l.length := List.idxOf_lt_length_of_mem h
theorem pl_at {l : List α} {x : α} (h : x ∈ l) : l[pl l x]? = some x := by
  unfold pl
  rw [List.getElem?_eq_getElem (List.idxOf_lt_length_of_mem h), List.getElem_idxOf]
end
abbrev Rws := List (List Nat)
def row (rs : Rws) (p : Nat) : List Nat := rs.getD p []
/-- where the letter a leads from p -/
def stp (rs : Rws) (p a : Nat) : Nat := (row rs p).getD a 0
def run (rs : Rws) (p : Nat) (w : List Nat) : Nat := w.foldl (stp rs) p
structure WFB (m : Nat) (rs : Rws) : Prop where
  pos : 0 < rs.length
  le : rs.length ≤ 4000
  m3 : m ≤ 3
  wid : ∀ r ∈ rs, r.length = m
  lt : ∀ r ∈ rs, ∀ t ∈ r, t < rs.length
structure GOK (n : Nat) (gd : List Nat) : Prop where
  inc : gd.Pairwise (· < ·)
  lt : ∀ x ∈ gd, x < n
theorem row_at {rs : Rws} {p : Nat} (h : p < rs.length) : rs[p]? = some (row rs p) := by
  unfold row
  rw [List.getD_eq_getElem?_getD, List.getElem?_eq_getElem h]
  rfl
theorem WFB.row_mem {m : Nat} {rs : Rws} (_ : WFB m rs) {p : Nat} (h : p < rs.length) : row rs p ∈ rs := by
  have := row_at h
  exact List.mem_of_getElem? this
theorem WFB.row_len {m : Nat} {rs : Rws} (w : WFB m rs) {p : Nat} (h : p < rs.length) : (row rs p).length = m := w.wid _ (w.row_mem h)
theorem WFB.row_lt {m : Nat} {rs : Rws} (w : WFB m rs) {p t : Nat} (h : p < rs.length) (ht : t ∈ row rs p) : t < rs.length := w.lt _ (w.row_mem h) t ht
theorem WFB.stp_at {m : Nat} {rs : Rws} (w : WFB m rs) {p a : Nat} (h : p < rs.length) (ha : a < m) : (row rs p)[a]? = some (stp rs p a) := by
  unfold stp
  rw [List.getD_eq_getElem?_getD, List.getElem?_eq_getElem (by rw [w.row_len h]; exact ha)]
  rfl
theorem WFB.stp_lt {m : Nat} {rs : Rws} (w : WFB m rs) {p a : Nat} (h : p < rs.length) (ha : a < m) : stp rs p a < rs.length := w.row_lt h (List.mem_of_getElem? (w.stp_at h ha))
theorem WFB.run_lt {m : Nat} {rs : Rws} (w : WFB m rs) : ∀ {l : List Nat} {p : Nat}, p < rs.length → (∀ a ∈ l, a < m) → run rs p l < rs.length
  | [], _, h, _ => h
  | a :: l, p, h, hl => by
    show run rs (stp rs p a) l < _
    exact w.run_lt (w.stp_lt h (hl a (List.mem_cons_self ..))) fun b hb => hl b (List.mem_cons_of_mem _ hb)
theorem run_snoc (rs : Rws) (p : Nat) (l : List Nat) (a : Nat) : run rs p (l ++ [a]) = stp rs (run rs p l) a := by simp [run]
theorem run_app (rs : Rws) (p : Nat) (l k : List Nat) : run rs p (l ++ k) = run rs (run rs p l) k := by simp [run]
/-- the rooms found, k of them gone through -/
def scanAt (rs : Rws) : Nat → List Nat
  | 0 => [0]
  | k + 1 => addsN (scanAt rs k) (row rs ((scanAt rs k).getD k 0))
theorem scan_nd (rs : Rws) : ∀ k, (scanAt rs k).Nodup
  | 0 => by simp [scanAt]
  | k + 1 => nd_addsN (scan_nd rs k)
theorem WFB.scan_lt {m : Nat} {rs : Rws} (w : WFB m rs) : ∀ k, ∀ x ∈ scanAt rs k, x < rs.length
  | 0, x, h => by
    rw [List.mem_singleton.mp h]
    exact w.pos
  | k + 1, x, h => by
    rcases mem_addsN.mp h with h | h
    · exact w.scan_lt k x h
    · refine w.row_lt ?_ h
      rw [List.getD_eq_getElem?_getD]
      cases e : (scanAt rs k)[k]? with
      | none => exact w.pos
      | some y => exact w.scan_lt k y (List.mem_of_getElem? e)
theorem nodup_sub {α : Type} [DecidableEq α] : ∀ {l k : List α}, l.Nodup → (∀ x ∈ l, x ∈ k) → l.length ≤ k.length
  | [], _, _, _ => by simp
  | a :: l, k, h, hl => by
    obtain ⟨h1, h2⟩ := List.nodup_cons.mp h
    have ha := hl a (List.mem_cons_self ..)
    have z := nodup_sub (k := k.erase a) h2 fun x hx => (List.mem_erase_of_ne (fun (e : x = a) => h1 (by rw [← e]; exact hx))).mpr (hl x (List.mem_cons_of_mem _ hx))
    rw [List.length_erase_of_mem ha] at z
    have hp := List.length_pos_of_mem ha
    rw [List.length_cons]
    omega
theorem nodup_le {l : List Nat} {n : Nat} (h : l.Nodup) (hl : ∀ x ∈ l, x < n) : l.length ≤ n := by
  have h1 := nodup_sub (k := List.range n) h fun x hx => List.mem_range.mpr (hl x hx)
  simpa using h1
theorem rev_ind {α : Type} {P : List α → Prop} (h0 : P []) (hs : ∀ l x, P l → P (l ++ [x])) (l : List α) : P l := by
  have z : ∀ k : List α, P k.reverse := fun k => by
    induction k with
    | nil => exact h0
    | cons a k ih =>
      rw [List.reverse_cons]
      exact hs _ _ ih
  have := z l.reverse
  rwa [List.reverse_reverse] at this
theorem WFB.scan_len {m : Nat} {rs : Rws} (w : WFB m rs) (k : Nat) : (scanAt rs k).length ≤ rs.length := nodup_le (scan_nd rs k) (w.scan_lt k)
theorem scan0 (rs : Rws) : ∀ k, (scanAt rs k)[0]? = some 0
  | 0 => rfl
  | k + 1 => by
    obtain ⟨m, e⟩ := addsN_pre (scanAt rs k) (row rs ((scanAt rs k).getD k 0))
    show (addsN _ _)[0]? = _
    rw [e]
    have h := scan0 rs k
    obtain ⟨hlt, _⟩ := List.getElem?_eq_some_iff.mp h
    rw [List.getElem?_append_left hlt]
    exact h
theorem scan_pos (rs : Rws) (k : Nat) : 0 < (scanAt rs k).length := (List.getElem?_eq_some_iff.mp (scan0 rs k)).1
/-- a machine of at most 60 rooms -/
structure WF (m : Nat) (rs : Rws) : Prop where
  b : WFB m rs
  le : rs.length ≤ 60
instance {m : Nat} {rs : Rws} : Coe (WF m rs) (WFB m rs) := ⟨WF.b⟩
section
variable {m : Nat} {rs : Rws} (w : WF m rs)
include w
theorem WF.pos : 0 < rs.length := w.b.pos
theorem WF.m3 : m ≤ 3 := w.b.m3
theorem WF.wid : ∀ r ∈ rs, r.length = m := w.b.wid
theorem WF.lt : ∀ r ∈ rs, ∀ t ∈ r, t < rs.length := w.b.lt
theorem WF.row_mem {p : Nat} (h : p < rs.length) : row rs p ∈ rs := w.b.row_mem h
theorem WF.row_len {p : Nat} (h : p < rs.length) : (row rs p).length = m := w.b.row_len h
theorem WF.row_lt {p t : Nat} (h : p < rs.length) (ht : t ∈ row rs p) : t < rs.length := w.b.row_lt h ht
theorem WF.stp_at {p a : Nat} (h : p < rs.length) (ha : a < m) : (row rs p)[a]? = some (stp rs p a) := w.b.stp_at h ha
theorem WF.stp_lt {p a : Nat} (h : p < rs.length) (ha : a < m) : stp rs p a < rs.length := w.b.stp_lt h ha
theorem WF.run_lt {l : List Nat} {p : Nat} (h : p < rs.length) (hl : ∀ a ∈ l, a < m) : run rs p l < rs.length := w.b.run_lt h hl
theorem WF.scan_lt (k : Nat) : ∀ x ∈ scanAt rs k, x < rs.length := w.b.scan_lt k
theorem WF.scan_len (k : Nat) : (scanAt rs k).length ≤ rs.length := w.b.scan_len k
end
theorem WF.of {m : Nat} {rs : Rws} (pos : 0 < rs.length) (le : rs.length ≤ 60) (m3 : m ≤ 3) (wid : ∀ r ∈ rs, r.length = m) (lt : ∀ r ∈ rs, ∀ t ∈ r, t < rs.length) : WF m rs := ⟨⟨pos, by omega, m3, wid, lt⟩, le⟩
def num {α : Type} [DecidableEq α] (rooms : List Nat) (sig : Nat → α) (r : Nat) : Nat := pl (dd (rooms.map sig)) (sig r)
def cnt {α : Type} [DecidableEq α] (rooms : List Nat) (sig : Nat → α) : Nat := (dd (rooms.map sig)).length
def nkB (b : Bool) : NestedKey := .num (if b = true then 1 else 0)
def nkN (n : Nat) : NestedKey := .num (n : Int)
mutual
/-- what a room shows in round k -/
def sigA (rs : Rws) (mk : Nat → Bool) (rooms : List Nat) : Nat → Nat → NestedKey
  | 0, r => .tup [nkB (mk r)]
  | k + 1, r => .tup [nkN (clsA rs mk rooms k r), .tup ((row rs r).map fun t => nkN (clsA rs mk rooms k t))]
/-- its class behind round k -/
def clsA (rs : Rws) (mk : Nat → Bool) (rooms : List Nat) : Nat → Nat → Nat
  | 0, r => pl (dd (rooms.map fun r => NestedKey.tup [nkB (mk r)])) (.tup [nkB (mk r)])
  | k + 1, r => pl (dd (rooms.map fun r => NestedKey.tup [nkN (clsA rs mk rooms k r), .tup ((row rs r).map fun t => nkN (clsA rs mk rooms k t))])) (.tup [nkN (clsA rs mk rooms k r), .tup ((row rs r).map fun t => nkN (clsA rs mk rooms k t))])
end
theorem clsA_eq (rs : Rws) (mk : Nat → Bool) (rooms : List Nat) (k : Nat) (r : Nat) : clsA rs mk rooms k r = num rooms (sigA rs mk rooms k) r := by
  cases k with
  | zero => simp only [clsA, num, sigA]; rfl
  | succ k => simp only [clsA, num, sigA]; rfl
/-- one room of each class, the first -/
def headsOf (rooms : List Nat) (g : Nat → Nat) : List Nat := rooms.foldl (fun hs r => if g r ∈ hs.map g then hs else hs ++ [r]) []
theorem headsOf_snoc (rooms : List Nat) (g : Nat → Nat) (r : Nat) : headsOf (rooms ++ [r]) g = if g r ∈ (headsOf rooms g).map g then headsOf rooms g else headsOf rooms g ++ [r] := by simp [headsOf]
theorem heads_map (g : Nat → Nat) (rooms : List Nat) : (headsOf rooms g).map g = dd (rooms.map g) := by
  induction rooms using rev_ind with
  | h0 => rfl
  | hs l r ih =>
    rw [headsOf_snoc, List.map_append, List.map_singleton, dd_snoc, ← ih]
    unfold addN
    split
    · rfl
    · rw [List.map_append]
      rfl
theorem heads_mem {g : Nat → Nat} {rooms : List Nat} {x : Nat} (h : x ∈ headsOf rooms g) : x ∈ rooms := by
  induction rooms using rev_ind with
  | h0 => cases h
  | hs l r ih =>
    rw [headsOf_snoc] at h
    split at h
    · exact List.mem_append_left _ (ih h)
    · rcases List.mem_append.mp h with h | h
      · exact List.mem_append_left _ (ih h)
      · exact List.mem_append_right _ h
theorem heads_len (g : Nat → Nat) (rooms : List Nat) : (headsOf rooms g).length = (dd (rooms.map g)).length := by rw [← heads_map, List.length_map]
/-- the least table by classes g -/
def lrows (rs : Rws) (rooms : List Nat) (g : Nat → Nat) : Rws := (headsOf rooms g).map fun h => (row rs h).map (num rooms g)
def lmarks (mk : Nat → Bool) (rooms : List Nat) (g : Nat → Nat) : List Bool := (headsOf rooms g).map mk
theorem take_at {α : Type} {l : List α} {j : Nat} {u : α} (h : l[j]? = some u) : l.take (j + 1) = l.take j ++ [u] := by
  rw [List.take_add_one, h]
  rfl
/-- the word w in letters of al -/
def Word (al : List Nat) (w z : List Nat) : Prop := (∀ a ∈ w, a < al.length) ∧ z = w.map fun a => al.getD a 0
def mapK (l : List Nat) (f : Nat → V) : List (Key × V) := l.map fun (n : Nat) => ((Sum.inl (n : Int) : Key), f n)
theorem valV_mapK (f : Nat → V) (n : Nat) : ∀ l : List Nat, valV (mapK l f) (Sum.inl (n : Int)) = if n ∈ l then some (f n) else none
  | [] => rfl
  | a :: l => by
    by_cases e : a = n
    · subst e
      rw [if_pos (List.mem_cons_self ..)]
      exact valV_pos (p := ((Sum.inl (a : Int) : Key), f a)) rfl
    · have z : ¬ ((Sum.inl (a : Int) : Key), f a).1 = Sum.inl (n : Int) := fun h => e (by
        have := Sum.inl.inj h
        omega)
      show valV (((Sum.inl (a : Int) : Key), f a) :: mapK l f) _ = _
      rw [valV_neg z, valV_mapK f n l]
      have e' : n ∈ a :: l ↔ n ∈ l := by
        rw [List.mem_cons]
        exact ⟨fun h => h.elim (fun z => (e z.symm).elim) id, .inr⟩
      simp only [e']
theorem valV_mapK_in {f : Nat → V} {n : Nat} {l : List Nat} (h : n ∈ l) : valV (mapK l f) (Sum.inl (n : Int)) = some (f n) := by rw [valV_mapK, if_pos h]
theorem valV_mapK_no {f : Nat → V} {n : Nat} {l : List Nat} (h : n ∉ l) : valV (mapK l f) (Sum.inl (n : Int)) = none := by rw [valV_mapK, if_neg h]
theorem putK_mapK {f : Nat → V} {n : Nat} {l : List Nat} {v : V} (h : n ∉ l) (e : v = f n) : putK (mapK l f) (Sum.inl (n : Int)) v = mapK (l ++ [n]) f := by
  subst e
  rw [putK_new _ (valV_mapK_no h)]
  simp [mapK]
theorem mapK_congr {f g : Nat → V} {l : List Nat} (h : ∀ x ∈ l, f x = g x) : mapK l f = mapK l g := by
  unfold mapK
  exact List.map_congr_left fun x hx => by rw [h x hx]
theorem mapK_len (l : List Nat) (f : Nat → V) : (mapK l f).length = l.length := by simp [mapK]
def mapN (l : List NestedKey) (f : NestedKey → V) : List (NestedKey × V) := l.map fun k => (k, f k)
theorem lookN_mapN (f : NestedKey → V) (n : NestedKey) : ∀ l : List NestedKey, lookN (mapN l f) n = if n ∈ l then some (f n) else none
  | [] => rfl
  | a :: l => by
    show lookN ((a, f a) :: mapN l f) n = _
    unfold lookN
    rw [List.find?_cons]
    by_cases e : a = n
    · subst e
      simp
    · have e' : n ∈ a :: l ↔ n ∈ l := by
        rw [List.mem_cons]
        exact ⟨fun h => h.elim (fun z => (e z.symm).elim) id, .inr⟩
      have ih := lookN_mapN f n l
      unfold lookN at ih
      simp only [e, e', decide_false]
      exact ih
theorem lookN_in {f : NestedKey → V} {n : NestedKey} {l : List NestedKey} (h : n ∈ l) : lookN (mapN l f) n = some (f n) := by rw [lookN_mapN, if_pos h]
theorem lookN_no {f : NestedKey → V} {n : NestedKey} {l : List NestedKey} (h : n ∉ l) : lookN (mapN l f) n = none := by rw [lookN_mapN, if_neg h]
theorem putN_mapN {f : NestedKey → V} {n : NestedKey} {l : List NestedKey} {v : V} (h : n ∉ l) (e : v = f n) : putN (mapN l f) n v = mapN (l ++ [n]) f := by
  subst e
  unfold putN
  rw [lookN_no h, if_neg (by decide)]
  simp [mapN]
theorem mapN_congr {f g : NestedKey → V} {l : List NestedKey} (h : ∀ x ∈ l, f x = g x) : mapN l f = mapN l g := by
  unfold mapN
  exact List.map_congr_left fun x hx => by rw [h x hx]
theorem mapN_len (l : List NestedKey) (f : NestedKey → V) : (mapN l f).length = l.length := by simp [mapN]
/-- numbers by first places -/
def numD {α : Type} [DecidableEq α] (l : List α) (x : α) : V := vn (pl l x)
end U
namespace U
open PySem PySem.Spec PyProof.Rows L2 C8
section
variable {K : PySem.W.Frag} {P : Program} {w : World} {D : Ends} {σ : L2.St} {H : Hp} {Q : VK} {td ty tv te tk : TE}
def RDGet (x y : V) (H : Hp) (Q : VK) : Prop := ∃ a v, x = .ref a ∧ DGet H a y (some v) ∧ Q v H
theorem i_dget (q : td σ H fun x H1 => ty σ H1 fun y H2 => RDGet x y H2 Q) : tDGet td ty σ H Q := q
theorem r_dget {a : Addr} {kvs : List (Key × V)} {i : Int} {v : V} (h : H a = some (.dK kvs)) (e : valV kvs (Sum.inl i) = some v) (q : Q v H) : RDGet (.ref a) (.int i) H Q := ⟨a, v, rfl, by rw [← e]; exact DGet.k (k := Sum.inl i) h, q⟩
def RDIn (x y : V) (H : Hp) (Q : VK) : Prop := ∃ a o, x = .ref a ∧ DGet H a y o ∧ Q (.bl o.isSome) H
theorem i_din (q : ty σ H fun y H1 => td σ H1 fun x H2 => RDIn x y H2 Q) : tDIn ty td σ H Q := q
theorem r_din {a : Addr} {kvs : List (Key × V)} {i : Int} (h : H a = some (.dK kvs)) (q : Q (.bl (valV kvs (Sum.inl i)).isSome) H) : RDIn (.ref a) (.int i) H Q := ⟨a, _, rfl, DGet.k (k := Sum.inl i) h, q⟩
def RDNotIn (x y : V) (H : Hp) (Q : VK) : Prop := ∃ a o, x = .ref a ∧ DGet H a y o ∧ Q (.bl (!o.isSome)) H
theorem i_dnotin (q : ty σ H fun y H1 => td σ H1 fun x H2 => RDNotIn x y H2 Q) : tDNotIn ty td σ H Q := q
theorem r_dnotin {a : Addr} {kvs : List (Key × V)} {i : Int} (h : H a = some (.dK kvs)) (q : Q (.bl (!(valV kvs (Sum.inl i)).isSome)) H) : RDNotIn (.ref a) (.int i) H Q := ⟨a, _, rfl, DGet.k (k := Sum.inl i) h, q⟩
def RDPut (x y v : V) (H : Hp) (Q : Hp → Prop) : Prop := ∃ a H4, x = .ref a ∧ DPut H a y v H4 ∧ Q H4
theorem i_dput (q : tv σ H fun v H1 => td σ H1 fun x H2 => ty σ H2 fun y H3 => RDPut x y v H3 fun H4 => D.nx σ H4) : sDPut td ty tv D σ H := q
theorem r_dput {a : Addr} {kvs : List (Key × V)} {i : Int} {v : V} {Q : Hp → Prop} (h : H a = some (.dK kvs)) (hl : kvs.length < 16777216) (q : Q (upd H a (.dK (putK kvs (Sum.inl i) v)))) : RDPut (.ref a) (.int i) v H Q := ⟨a, _, rfl, DPut.k (k := Sum.inl i) h (szlt hl), q⟩
theorem i_dnewK (q : ∀ p, H p = none → Q (.ref p) (upd H p (.dK []))) : tDNewK σ H Q := q
/-- {k: v}, k a whole number, v no object of its own -/
theorem i_disp1 {i : Int} {v : V} (q : ∀ p, H p = none → Q (.ref p) (upd H p (.dK [(Sum.inl i, v)]))) : tDisp [(tC (.int i), tC v)] σ H Q := fun p hp => ⟨upd_same, [(Sum.inl i, v)], rfl, by show 1 ≤ 15; decide, by
  rw [upd_upd]
  exact q p hp⟩
def RNGet (P : Program) (w : World) (x y : V) (H : Hp) (Q : VK) : Prop := ∃ d k kvs v, x = .ref d ∧ NDict P w H d kvs ∧ KeyAt H k y ∧ lookN kvs k = some v ∧ Q v H
theorem i_nget (q : td σ H fun x H1 => ty σ H1 fun y H2 => RNGet P w x y H2 Q) : tNGet P w td ty σ H Q := q
def RNIn (P : Program) (w : World) (x y : V) (H : Hp) (Q : VK) : Prop := ∃ d k kvs, x = .ref d ∧ NDict P w H d kvs ∧ KeyAt H k y ∧ Q (.bl (lookN kvs k).isSome) H
theorem i_nin (q : ty σ H fun y H1 => td σ H1 fun x H2 => RNIn P w x y H2 Q) : tNIn P w ty td σ H Q := q
def RNNotIn (P : Program) (w : World) (x y : V) (H : Hp) (Q : VK) : Prop := ∃ d k kvs, x = .ref d ∧ NDict P w H d kvs ∧ KeyAt H k y ∧ Q (.bl (!(lookN kvs k).isSome)) H
theorem i_nnotin (q : ty σ H fun y H1 => td σ H1 fun x H2 => RNNotIn P w x y H2 Q) : tNNotIn P w ty td σ H Q := q
def RNPut (P : Program) (w : World) (x y v : V) (H : Hp) (Q : Hp → Prop) : Prop := ∃ d k kvs, x = .ref d ∧ NDict P w H d kvs ∧ KeyAt H k y ∧ kvs.length < sizeLine ∧ ∀ o, NDict P w (upd H d o) d (putN kvs k v) → Q (upd H d o)
theorem i_nput (q : tv σ H fun v H1 => td σ H1 fun x H2 => ty σ H2 fun y H3 => RNPut P w x y v H3 fun H4 => D.nx σ H4) : sNPut P w td ty tv D σ H := q
theorem i_dnewN (q : ∀ p o, H p = none → NDict P w (upd H p o) p [] → Q (.ref p) (upd H p o)) : tNNew P w σ H Q := q
end
section
variable {K : PySem.W.Frag} {D : Ends} {σ : L2.St} {H : Hp} {ta tv : TE} {f : Str}
def RFld (K : PySem.W.Frag) (f : Str) (x y : V) (H : Hp) (R : Hp → Prop) : Prop := ∃ a C dx fs, x = .ref a ∧ H a = some (.ins C dx fs) ∧ Cls K C ∧ NoAttr K C f ∧ fs.length < 1000 ∧ R (upd H a (.ins C dx (putF f y fs)))
theorem i_sfld (q : tv σ H fun y H1 => ta σ H1 fun x H2 => RFld K f x y H2 fun H3 => D.nx σ H3) : sFld K ta tv f D σ H := q
theorem r_fld {a C dx : Addr} {fs : List (Str × V)} {y : V} {R : Hp → Prop} (h : H a = some (.ins C dx fs)) (c : Cls K C) (n : NoAttr K C f) (hl : fs.length < 1000) (q : R (upd H a (.ins C dx (putF f y fs)))) : RFld K f (.ref a) y H R := ⟨a, C, dx, fs, rfl, h, c, n, hl, q⟩
theorem Kp.at {H : Hp} {p : Addr} {o : HO} : Kp (fun b => b = p) H (upd H p o) := Kp.wrote rfl
end
section
variable {D : Ends} {σ : L2.St} {H : Hp} {c : TT} {tb : TS}
def WhT (n : Nat) (Pv : Nat → L2.St → Hp → Prop) (tb : TS) (D : Ends) (k : Nat) (σ : L2.St) (H : Hp) : Prop := ∃ N : L2.St → Hp → Prop, (∀ σ' H', N σ' H' → ∃ m', m' < n - k ∧ ∃ j, m' = n - j ∧ Pv j σ' H') ∧ tb { D with nx := N, ct := N, bk := D.nx } σ H
theorem whT {n k : Nat} {Pv : Nat → L2.St → Hp → Prop} (h : k < n) (q : tb { D with nx := Pv (k + 1), ct := Pv (k + 1), bk := D.nx } σ H) : WhT n Pv tb D k σ H := ⟨Pv (k + 1), fun σ' H' p => ⟨n - (k + 1), by omega, k + 1, rfl, p⟩, q⟩
theorem i_while (n : Nat) (Pv : Nat → L2.St → Hp → Prop) (h0 : Pv 0 σ H) (hs : ∀ k σ H, Pv k σ H → c σ H fun b H1 => if b = true then WhT n Pv tb D k σ H1 else D.nx σ H1) : tWhile c tb D σ H := by
  refine ⟨fun m σ H => ∃ k, m = n - k ∧ Pv k σ H, ⟨_, 0, rfl, h0⟩, ?_⟩
  rintro m σ H ⟨k, rfl, p⟩
  exact hs k σ H p
end
theorem upd_comm {H : Hp} {a b : Addr} {x y : HO} (h : a ≠ b) : upd (upd H a x) b y = upd (upd H b y) a x := by
  funext c
  by_cases e : c = a
  · subst e
    rw [upd_ne h, upd_same, upd_same]
  · by_cases e' : c = b
    · subst e'
      rw [upd_same, upd_ne e, upd_same]
    · rw [upd_ne e', upd_ne e, upd_ne e, upd_ne e']
theorem upd_swap {H : Hp} {a b : Addr} {x y z : HO} (h : a ≠ b) : upd (upd (upd H a x) b y) a z = upd (upd H a z) b y := by
  rw [upd_comm (H := upd H a x) h.symm, upd_upd]
theorem upd2 {H : Hp} {a b : Addr} {x y z u : HO} (h : a ≠ b) : upd (upd (upd (upd H a x) b y) a z) b u = upd (upd H a z) b u := by
  rw [upd_swap h, upd_upd]
section
variable {T : AS} {H : Hp} {p : Addr} {rs : Rws} {m : Nat}
theorem Rows.at {r : Nat} (h : Rows T H p rs) (hr : r < rs.length) : ∃ t vs a, H p = some (sq t vs) ∧ vs.length = rs.length ∧ atI vs (r : Int) = some (.ref a) ∧ Ints T H a (row rs r) := by
  obtain ⟨_, t, as, h2, h3⟩ := h
  obtain ⟨a, ha, hi⟩ := Paired.at1 h3 (row_at hr)
  exact ⟨t, as.map .ref, a, h2, by rw [List.length_map, h3.length], atI_nat (map_at ha), hi⟩
theorem RowsT.at {r : Nat} (h : RowsT T H p rs) (hr : r < rs.length) : ∃ vs a, H p = some (.tup vs) ∧ vs.length = rs.length ∧ atI vs (r : Int) = some (.ref a) ∧ IntsT T H a (row rs r) := by
  obtain ⟨_, as, h2, h3⟩ := h
  obtain ⟨a, ha, hi⟩ := Paired.at1 h3 (row_at hr)
  exact ⟨as.map .ref, a, h2, by rw [List.length_map, h3.length], atI_nat (map_at ha), hi⟩
theorem Rows.len (h : Rows T H p rs) : ∃ t vs, H p = some (sq t vs) ∧ vs.length = rs.length := by
  obtain ⟨_, t, as, h2, h3⟩ := h
  exact ⟨t, as.map .ref, h2, by rw [List.length_map, h3.length]⟩
theorem RowsT.len (h : RowsT T H p rs) : ∃ vs, H p = some (.tup vs) ∧ vs.length = rs.length := by
  obtain ⟨_, as, h2, h3⟩ := h
  exact ⟨as.map .ref, h2, by rw [List.length_map, h3.length]⟩
theorem vn_at {ns : List Nat} {i n : Nat} (h : ns[i]? = some n) : atI (ns.map vn) (i : Int) = some (.int (n : Int)) := atI_nat (map_at h)
/-- what is laid anew is not among T -/
def TO (T : AS) (H : Hp) : Prop := ∀ b, T b → Old H b
theorem TO.new (t : TO T H) {p : Addr} (h : H p = none) : ¬ T p := fun z => Old.none h (t p z)
theorem TO.same {H' : Hp} (t : TO T H) (s : Same H H') : TO T H' := fun b hb => let ⟨o, e⟩ := t b hb; ⟨o, s _ _ e⟩
theorem Srcs.to {S : AS} (s : Srcs S H) : TO S H := fun _ h => s.old h
theorem Ints.same {H' : Hp} {ns : List Nat} (h : Ints T H p ns) (s : Same H H') : Ints T H' p ns := h.kp (T' := fun _ => False) (.of_same s) (fun _ z => z.elim)
theorem IntsT.same {H' : Hp} {ns : List Nat} (h : IntsT T H p ns) (s : Same H H') : IntsT T H' p ns := h.kp (T' := fun _ => False) (.of_same s) (fun _ z => z.elim)
theorem Rows.same {H' : Hp} (h : Rows T H p rs) (s : Same H H') : Rows T H' p rs := h.kp (T' := fun _ => False) (.of_same s) (fun _ z => z.elim)
theorem RowsT.same {H' : Hp} (h : RowsT T H p rs) (s : Same H H') : RowsT T H' p rs := h.kp (T' := fun _ => False) (.of_same s) (fun _ z => z.elim)
/-- an object is none of the data -/
theorem Ints.ins {q C dx : Addr} {fs : List (Str × V)} {ns : List Nat} (h : Ints T H p ns) (e : H q = some (.ins C dx fs)) : Ints (fun b => T b ∨ b = q) H p ns := ⟨fun z => z.elim h.1 fun z => by
  obtain ⟨t, e'⟩ := h.2
  rw [z, e] at e'
  (cases t with | true => cases e' | false => cases e'), h.2⟩
theorem IntsT.ins {q C dx : Addr} {fs : List (Str × V)} {ns : List Nat} (h : IntsT T H p ns) (e : H q = some (.ins C dx fs)) : IntsT (fun b => T b ∨ b = q) H p ns := ⟨fun z => z.elim h.1 fun z => by
  have e' := h.2
  rw [z, e] at e'
  (cases e'), h.2⟩
theorem Rows.ins {q C dx : Addr} {fs : List (Str × V)} (h : Rows T H p rs) (e : H q = some (.ins C dx fs)) : Rows (fun b => T b ∨ b = q) H p rs := by
  obtain ⟨h1, t, as, h2, h3⟩ := h
  refine ⟨fun z => z.elim h1 fun z => ?_, t, as, h2, Paired.mapP h3 fun _ _ z => z.ins e⟩
  rw [z, e] at h2
  (cases t with | true => cases h2 | false => cases h2)
theorem RowsT.ins {q C dx : Addr} {fs : List (Str × V)} (h : RowsT T H p rs) (e : H q = some (.ins C dx fs)) : RowsT (fun b => T b ∨ b = q) H p rs := by
  obtain ⟨h1, as, h2, h3⟩ := h
  refine ⟨fun z => z.elim h1 fun z => ?_, as, h2, Paired.mapP h3 fun _ _ z => z.ins e⟩
  rw [z, e] at h2
  cases h2
end
theorem nk_ints {H : Hp} : ∀ ns : List Nat, NKs' H (ns.map nkN) (ns.map vn)
  | [] => .nil
  | n :: ns => .cons (.int _) (nk_ints ns)
theorem nk_depth : ∀ ns : List Nat, NestedKey.depthAll (ns.map nkN) = 0
  | [] => by simp [NestedKey.depthAll]
  | n :: ns => by
    simp only [List.map_cons, NestedKey.depthAll, nk_depth ns]
    simp [nkN, NestedKey.depth]
theorem occ_at {al : List Nat} {k c : Nat} (hn : al.Nodup) (h : al[k]? = some c) : ∃ rest, Builtin.Str.occurrences (SX.S al) (⟨#[c]⟩ : Str) 0 (SX.S al).length 1 = k :: rest := by
  have hf := SX.in_one al c
  have hm : c ∈ al := List.mem_of_getElem? h
  rw [decide_eq_true hm] at hf
  have e1 : (SX.S [c]) = (⟨#[c]⟩ : Str) := rfl
  rw [e1] at hf
  obtain ⟨f, ch⟩ := StrLaws.occ_chain (SX.S al) (⟨#[c]⟩ : Str) 1
  cases q : Builtin.Str.occurrences (SX.S al) (⟨#[c]⟩ : Str) 0 (SX.S al).length 1 with
  | nil => rw [q] at hf; cases hf
  | cons i rest =>
    rw [q] at ch
    have hA : (SX.S al).cps.toList[i]? = some c := (StrLaws.subAt_one (SX.S al) c i).mp ch.2.1
    have hA' : al[i]? = some c := by simpa [SX.S] using hA
    have e : i = k := by
      obtain ⟨h1, h2⟩ := List.getElem?_eq_some_iff.mp hA'
      obtain ⟨h3, h4⟩ := List.getElem?_eq_some_iff.mp h
      have pw := List.pairwise_iff_getElem.mp hn
      rcases Nat.lt_trichotomy i k with z | z | z
      · exact (pw i k h1 h3 z (h2.trans h4.symm)).elim
      · exact z
      · exact (pw k i h3 h1 z (h4.trans h2.symm)).elim
    exact ⟨rest, by rw [e]⟩
def rSIdx : V → List V → Hp → VK → Prop := fun x xs H Q => ∃ a b i rest, x = .str a ∧ xs = [.str b] ∧ Builtin.Str.occurrences a b 0 a.length 1 = i :: rest ∧ Q (.int (i : Nat)) H
theorem sidxK {X : Cx} (K : PySem.W.Frag) (h : X.K = K) {o e : Expr} {to : TE} {ta : TA} {apos cpos : Pos} (ho : PE X o to) (ha : PA X [e] ta)
    (hbase : attributeBase o "index" X.env (eval o X.env) = eval o X.env := by rfl)
    (hfew : ((backTo cpos (starEach (e :: []) X.env)).all (fun x => !x.1) && (backToKw cpos (keywordEach [] X.env)).all (fun x => x.1.isSome)
      && decide ((e :: ([] : List Expr)).length + ([] : List Keyword).length + (if ([] : List Keyword).isEmpty then 0 else 1) < 30)) = true := by rfl)
    (hline : (apos.endLine == cpos.line) = true := by rfl) (hs : starEach (e :: []) X.env = (false, eval e X.env) :: starEach [] X.env := by rfl) (hplain : (backTo cpos (starEach [] X.env)).any (·.1) = false := by rfl) :
    PE X (.Call (.Attribute o "index" apos) [e] [] cpos) (tBM K "str" rSIdx to ta) := by
  subst h
  exact pe_bm PySem.F.plainAttrs_str PySem.F.slot_str_index PySem.F.type_str_index mt_sindex ho ha hbase hfew hline hs hplain
theorem i_sidx {al : List Nat} {k c : Nat} {H : Hp} {Q : VK} (hn : al.Nodup) (h : al[k]? = some c) (q : Q (.int (k : Int)) H) : rSIdx (.str (SX.S al)) [.str ⟨#[c]⟩] H Q := let ⟨r, e⟩ := occ_at hn h; ⟨_, _, k, r, rfl, rfl, e, q⟩
theorem AlOk.nd {al : List Nat} (h : AlOk al) : al.Nodup := h.inc.imp fun z => Nat.ne_of_lt z
structure OwnCal (P : Program) (w : World) (K : PySem.W.Frag) (mg : Str → Option Value) (base : Heap) (k : Nat) (C : Addr) (n : Str) (sp : Sp) : Prop where
  ex : ∃ (f : Addr) (fd : FuncData) (ps : List Str), FnOk P w K mg base C8.CX0 k f fd ps sp ∧ OwnM K C n f ∧ Binds K fd ps []
section
variable {X : Cx} {k j : Nat} {C : Addr} {sp : Sp}
theorem ownIn (c : OwnCal X.prog X.w X.K X.mg X.base k C "__contains__" sp) (hr : Room j X.A) (hk : k ≤ j) : OpR X (compareOp .In) (rOwnIn C sp C8.E0) := by
  obtain ⟨f, fd, ps, F, o, b⟩ := c.ex
  exact op_ownin F (hr.mono hk) o b C8.pass0
theorem ownEq (c : OwnCal X.prog X.w X.K X.mg X.base k C "__eq__" sp) (hr : Room j X.A) (hk : k ≤ j) : OpR X (compareOp .Eq) (rOwnEq C sp C8.E0) := by
  obtain ⟨f, fd, ps, F, o, b⟩ := c.ex
  exact op_owneq F (hr.mono hk) o b C8.pass0
theorem ownNe (c : OwnCal X.prog X.w X.K X.mg X.base k C "__eq__" sp) (hr : Room j X.A) (hk : k + 1 ≤ j) (hn : PySem.W.findIn X.K (.ref C) "__ne__" = some (some (.builtin "object.__ne__"))) (hm : PySem.W.mroIn X.K C (.type "object") = some true) : OpR X (compareOp .NotEq) (rOwnNe C sp C8.E0) := by
  obtain ⟨f, fd, ps, F, o, b⟩ := c.ex
  exact op_ownne F (hr.mono hk) o hn hm b C8.pass0
end
section
variable {K : PySem.W.Frag} {H : Hp} {Q : VK} {R : Prop}
theorem i_isN {x : V} (q : Q (.bl (decide (x = .non))) H) : rIsN x .non H Q := ⟨rfl, q⟩
theorem i_notN {x : V} (q : Q (.bl (!decide (x = .non))) H) : rNotN x .non H Q := ⟨rfl, q⟩
theorem iteNon {A B : Prop} (h : A) : if decide (V.non = V.non) = true then A else B := ite_dt rfl h
theorem iteNonN {A B : Prop} (h : B) : if (!decide (V.non = V.non)) = true then A else B := ite_ndf rfl h
theorem iteRefN {A B : Prop} {p : Addr} (h : B) : if decide (V.ref p = V.non) = true then A else B := ite_df (by intro z; cases z) h
theorem iteRefNN {A B : Prop} {p : Addr} (h : A) : if (!decide (V.ref p = V.non)) = true then A else B := ite_ndt (by intro z; cases z) h
theorem iteStrN {A B : Prop} {p : Str} (h : B) : if decide (V.str p = V.non) = true then A else B := ite_df (by intro z; cases z) h
theorem iteStrNN {A B : Prop} {p : Str} (h : A) : if (!decide (V.str p = V.non)) = true then A else B := ite_ndt (by intro z; cases z) h
theorem gNil_eq {σ : L2.St} {QS : L2.St → Hp → Prop} : gNil [] σ H QS = QS σ H := by
  unfold gNil
  simp
theorem gCons_eq {t : TG} {u : TGs} {v : V} {r : List V} {σ : L2.St} {QS : L2.St → Hp → Prop} : gCons t u (v :: r) σ H QS = t v σ H fun σ' H' => u r σ' H' QS := propext ⟨fun ⟨_, _, e, h⟩ => by cases e; exact h, fun h => ⟨_, _, rfl, h⟩⟩
theorem i_gTup2 {n : Nat} {t1 t2 : TG} {a : Addr} {x y : V} {σ : L2.St} {QS : L2.St → Hp → Prop} (h : H a = some (.tup [x, y])) (e : 2 = n) (q : t1 x σ H fun σ' H' => t2 y σ' H' QS) : gTup K n (gCons t1 (gCons t2 gNil)) (.ref a) σ H QS :=
  ⟨a, [x, y], rfl, SqT.of h, e, by
    simp only [gCons_eq, gNil_eq]
    exact q⟩
theorem i_gTup3 {n : Nat} {t1 t2 t3 : TG} {a : Addr} {x y z : V} {σ : L2.St} {QS : L2.St → Hp → Prop} (h : H a = some (.tup [x, y, z])) (e : 3 = n) (q : t1 x σ H fun σ' H' => t2 y σ' H' fun σ2 H2 => t3 z σ2 H2 QS) : gTup K n (gCons t1 (gCons t2 (gCons t3 gNil))) (.ref a) σ H QS :=
  ⟨a, [x, y, z], rfl, SqT.of h, e, by
    simp only [gCons_eq, gNil_eq]
    exact q⟩
theorem i_append {l : Addr} {xs : List V} {y : V} (h : H l = some (.lst xs)) (hl : xs.length < 16777216) (q : Q .non (upd H l (.lst (xs ++ [y])))) : rAppend (.ref l) [y] H Q := ⟨l, xs, y, rfl, rfl, h, szlt hl, q⟩
theorem i_bmL {p : Addr} {xs : List V} (h : H p = some (.lst xs)) (q : R) : tyV K "list" (.ref p) H ∧ R := ⟨.inl ⟨rfl, xs, SqL.of h⟩, q⟩
theorem i_bmStr {z : Str} (q : R) : tyV K "str" (.str z) H ∧ R := ⟨rfl, q⟩
theorem i_fldR {f : Str} {a C dx : Addr} {fs : List (Str × V)} {v : V} {R : V → Prop} (h : H a = some (.ins C dx fs)) (c : Cls K C) (n : NoAttr K C f) (e : fs.lookup f = some v) (q : R v) :
    ∃ a' C dx fs v, V.ref a = .ref a' ∧ H a' = some (.ins C dx fs) ∧ Cls K C ∧ NoAttr K C f ∧ fs.lookup f = some v ∧ R v := ⟨a, C, dx, fs, v, rfl, h, c, n, e, q⟩
end
def flds (al : List Nat) (pm pg : Addr) : List (Str × V) := putF "good" (.ref pg) (putF "moves" (.ref pm) (putF "alphabet" (.str (SX.S al)) []))
theorem fl_ma : ¬ (("moves" : Str) = "alphabet") := by decide +kernel
theorem fl_ga : ¬ (("good" : Str) = "alphabet") := by decide +kernel
theorem fl_gm : ¬ (("good" : Str) = "moves") := by decide +kernel
theorem flds_al (al : List Nat) (pm pg : Addr) : (flds al pm pg).lookup ("alphabet" : Str) = some (.str (SX.S al)) := by
  unfold flds
  rw [lookup_putF, if_neg (Ne.symm fl_ga), lookup_putF, if_neg (Ne.symm fl_ma), lookup_putF, if_pos rfl]
theorem flds_mo (al : List Nat) (pm pg : Addr) : (flds al pm pg).lookup ("moves" : Str) = some (.ref pm) := by
  unfold flds
  rw [lookup_putF, if_neg (Ne.symm fl_gm), lookup_putF, if_pos rfl]
theorem flds_go (al : List Nat) (pm pg : Addr) : (flds al pm pg).lookup ("good" : Str) = some (.ref pg) := by
  unfold flds
  rw [lookup_putF, if_pos rfl]
/-- a reader stands at p, none of it among T -/
def Rd (C : Addr) (T : AS) (H : Hp) (p : Addr) (al : List Nat) (rs : Rws) (gd : List Nat) : Prop :=
  ¬ T p ∧ ∃ dx pm pg, H p = some (.ins C dx (flds al pm pg)) ∧ RowsT T H pm rs ∧ IntsT T H pg gd
theorem Rd.kp {C : Addr} {T T' : AS} {H H' : Hp} {p : Addr} {al : List Nat} {rs : Rws} {gd : List Nat} (h : Rd C T H p al rs gd) (k : Kp T' H H') (i : ∀ b, T' b → T b) : Rd C T H' p al rs gd :=
  let ⟨h1, dx, pm, pg, h2, h3, h4⟩ := h; ⟨h1, dx, pm, pg, k _ _ (fun z => h1 (i _ z)) h2, h3.kp k i, h4.kp k i⟩
theorem Rd.same {C : Addr} {T : AS} {H H' : Hp} {p : Addr} {al : List Nat} {rs : Rws} {gd : List Nat} (h : Rd C T H p al rs gd) (s : Same H H') : Rd C T H' p al rs gd := h.kp (T' := fun _ => False) (.of_same s) (fun _ z => z.elim)
end U
namespace U
open PySem PySem.Spec PyProof.Rows L2 C8
def rInSg (neg : Bool) : R2 := fun x y H Q => ∃ c z, x = .str ⟨#[c]⟩ ∧ y = .str z ∧ Q (.bl (if neg then !decide (c ∈ z.cps.toList) else decide (c ∈ z.cps.toList))) H
theorem op_inSg {X : Cx} : OpR X (compareOp .In) (rInSg false) := op_in_sign
theorem op_notInSg {X : Cx} : OpR X (compareOp .NotIn) (rInSg true) := op_notIn_sign
section
variable {H : Hp} {Q : VK} {c : Nat} {al : List Nat} {z : Str}
theorem i_inSg (q : Q (.bl (decide (c ∈ al))) H) : rInSg false (.str ⟨#[c]⟩) (.str (SX.S al)) H Q := ⟨c, _, rfl, rfl, by simpa [SX.S] using q⟩
theorem i_notInSg (q : Q (.bl (!decide (c ∈ al))) H) : rInSg true (.str ⟨#[c]⟩) (.str (SX.S al)) H Q := ⟨c, _, rfl, rfl, by simpa [SX.S] using q⟩
theorem i_notInSgT (h : c ∈ z.cps.toList) (q : Q (.bl false) H) : rInSg true (.str ⟨#[c]⟩) (.str z) H Q := ⟨c, _, rfl, rfl, by simpa [h] using q⟩
end
end U
namespace U
open PySem PySem.Spec PyProof.Rows L2 C8
theorem inV_ints (n : Nat) : ∀ ns : List Nat, inV (vn n) (ns.map vn) = decide (n ∈ ns)
  | [] => rfl
  | a :: ns => by
    have ih := inV_ints n ns
    unfold inV at ih ⊢
    rw [List.map_cons, List.any_cons, ih]
    have e : eqV (vn a) (vn n) = decide (a = n) := by
      show decide ((a : Int) = (n : Int)) = _
      by_cases h : a = n
      · subst h; simp
      · have : ¬ ((a : Int) = (n : Int)) := by omega
        simp [h, this]
    rw [e]
    by_cases h : a = n
    · subst h; simp
    · have h' : ¬ n = a := fun z => h z.symm
      simp [h, h']
theorem flat_ints (ns : List Nat) : (ns.map vn).all flatV = true := by
  rw [List.all_eq_true]
  intro x hx
  obtain ⟨n, _, rfl⟩ := List.mem_map.mp hx
  rfl
theorem i_inI {K : PySem.W.Frag} {H : Hp} {Q : VK} {p : Addr} {t : Bool} {ns : List Nat} {n : Nat} (h : H p = some (sq t (ns.map vn))) (q : Q (.bl (decide (n ∈ ns))) H) : rIn K false (.int (n : Int)) (.ref p) H Q := by
  refine ⟨p, ns.map vn, rfl, ?_, rfl, flat_ints ns, ?_⟩
  · cases t with
    | false => exact .inl (SqL.of h)
    | true => exact .inr (SqT.of h)
  · rw [show inV (.int (n : Int)) (ns.map vn) = decide (n ∈ ns) from inV_ints n ns]
    exact q
theorem i_notInI {K : PySem.W.Frag} {H : Hp} {Q : VK} {p : Addr} {t : Bool} {ns : List Nat} {n : Nat} (h : H p = some (sq t (ns.map vn))) (q : Q (.bl (!decide (n ∈ ns))) H) : rIn K true (.int (n : Int)) (.ref p) H Q := by
  refine ⟨p, ns.map vn, rfl, ?_, rfl, flat_ints ns, ?_⟩
  · cases t with
    | false => exact .inl (SqL.of h)
    | true => exact .inr (SqT.of h)
  · rw [show inV (.int (n : Int)) (ns.map vn) = decide (n ∈ ns) from inV_ints n ns]
    exact q
theorem Word.len {al w z : List Nat} (h : Word al w z) : z.length = w.length := by rw [h.2, List.length_map]
theorem Word.at {al w z : List Nat} {i c : Nat} (h : Word al w z) (hc : z[i]? = some c) : ∃ a, w[i]? = some a ∧ a < al.length ∧ al[a]? = some c := by
  rw [h.2, List.getElem?_map] at hc
  cases e : w[i]? with
  | none => rw [e] at hc; cases hc
  | some a =>
    rw [e] at hc
    have ha := h.1 a (List.mem_of_getElem? e)
    refine ⟨a, rfl, ha, ?_⟩
    have hc' : al.getD a 0 = c := Option.some.inj hc
    rw [List.getElem?_eq_getElem ha]
    rw [List.getD_eq_getElem?_getD, List.getElem?_eq_getElem ha] at hc'
    exact congrArg some hc'
end U
namespace U
open PySem PySem.Spec PyProof.Rows L2
theorem keyA0 {H : Hp} {p : Addr} {b : Bool} (h : H p = some (.tup [.bl b])) : KeyAt H (.tup [nkB b]) (.ref p) := ⟨p, rfl, NK.tup h (.cons (.bl b) .nil), by simp [NestedKey.depth, NestedKey.depthAll, nkB]⟩
theorem keyA1 {H : Hp} {p q : Addr} {c : Nat} {ts : List Nat} (h : H p = some (.tup [vn c, .ref q])) (h2 : H q = some (.tup (ts.map vn))) : KeyAt H (.tup [nkN c, .tup (ts.map nkN)]) (.ref p) :=
  ⟨p, rfl, NK.tup h (.cons (.int _) (.cons (NK.tup h2 (nk_ints ts)) .nil)), by simp [NestedKey.depth, NestedKey.depthAll, nk_depth, nkN]⟩
theorem keyP {H : Hp} {p : Addr} {a b : Nat} (h : H p = some (.tup [vn a, vn b])) : KeyAt H (.tup [nkN a, nkN b]) (.ref p) := ⟨p, rfl, NK.tup h (.cons (.int _) (.cons (.int _) .nil)), by simp [NestedKey.depth, NestedKey.depthAll, nkN]⟩
theorem KeyAt.kp {H H' : Hp} {k : NestedKey} {y : V} (h : KeyAt H k y) (t : TKp H H') : KeyAt H' k y := let ⟨a, e, n, d⟩ := h; ⟨a, e, n.kp t, d⟩
theorem tkp_same {H H' : Hp} (s : Same H H') : TKp H H' := fun b _ e => s b _ e
theorem NDict.same {P : Program} {w : World} {H H' : Hp} {d : Addr} {kvs : List (NestedKey × V)} (n : NDict P w H d kvs) (s : Same H H') : NDict P w H' d kvs := by
  obtain ⟨xs, h1, h2, h3⟩ := n.ex
  exact ⟨⟨xs, s _ _ h1, fun x hx => ⟨(h2 x hx).1.kp (tkp_same s), (h2 x hx).2⟩, h3⟩, n.nz, n.len⟩
theorem NDict.old {P : Program} {w : World} {H : Hp} {d : Addr} {kvs : List (NestedKey × V)} (n : NDict P w H d kvs) : Old H d := by
  obtain ⟨xs, h1, _⟩ := n.ex
  exact ⟨_, h1⟩
theorem NDict.notdK {P : Program} {w : World} {H : Hp} {d e : Addr} {kvs : List (NestedKey × V)} {ks : List (Key × V)} (n : NDict P w H d kvs) (h : H e = some (.dK ks)) : d ≠ e := fun z => by
  obtain ⟨xs, h1, _⟩ := n.ex
  rw [z, h] at h1
  cases h1
theorem NDict.nottup {P : Program} {w : World} {H : Hp} {d : Addr} {kvs : List (NestedKey × V)} (n : NDict P w H d kvs) (vs : List V) : H d ≠ some (.tup vs) := fun z => by
  obtain ⟨xs, h1, _⟩ := n.ex
  rw [z] at h1
  cases h1
theorem NDict.notlst {P : Program} {w : World} {H : Hp} {d e : Addr} {kvs : List (NestedKey × V)} {ks : List V} (n : NDict P w H d kvs) (h : H e = some (.lst ks)) : d ≠ e := fun z => by
  obtain ⟨xs, h1, _⟩ := n.ex
  rw [z, h] at h1
  cases h1
theorem NDict.upd {P : Program} {w : World} {H : Hp} {d e : Addr} {kvs : List (NestedKey × V)} {o : HO} (n : NDict P w H d kvs) (h : d ≠ e) (t : ∀ vs, H e ≠ some (.tup vs)) : NDict P w (upd H e o) d kvs := n.kp (tkp_upd t) (upd_ne h)
section
variable {α : Type} [DecidableEq α]
theorem dd_pre (l m : List α) : ∃ k, dd (l ++ m) = dd l ++ k := by
  unfold dd
  rw [addsN_app]
  exact addsN_pre _ _
theorem pl_pre {l m : List α} {x : α} (h : x ∉ dd l) : pl (dd (l ++ x :: m)) x = (dd l).length := by
  have e : l ++ x :: m = (l ++ [x]) ++ m := by simp
  obtain ⟨k, hk⟩ := dd_pre (l ++ [x]) m
  rw [e, hk, dd_snoc, addN, if_neg h]
  unfold pl
  rw [List.append_assoc, List.idxOf_append, if_neg h]
  simp
theorem dd_take {l : List α} {i : Nat} {x : α} (h : l[i]? = some x) : dd (l.take (i + 1)) = addN (dd (l.take i)) x := by rw [take_at h, dd_snoc]
theorem split_at {l : List α} {i : Nat} {x : α} (h : l[i]? = some x) : l = l.take i ++ x :: l.drop (i + 1) := by
  obtain ⟨hi, e⟩ := List.getElem?_eq_some_iff.mp h
  rw [← e, ← List.drop_eq_getElem_cons hi, List.take_append_drop]
theorem pl_take {l : List α} {i : Nat} {x : α} (h : l[i]? = some x) (hn : x ∉ dd (l.take i)) : pl (dd l) x = (dd (l.take i)).length := by
  have e := split_at h
  conv => lhs; rw [e]
  exact pl_pre hn
end
def dInts (ns : List Nat) : PyData := .tuple (ns.map fun (n : Nat) => PyData.int (n : Int))
def dIntsL (ns : List Nat) : PyData := .list (ns.map fun (n : Nat) => PyData.int (n : Int))
def dRows (rs : Rws) : PyData := .tuple (rs.map dInts)
section
variable {K : PySem.W.Frag} {H : Hp} {T : AS} {p : Addr}
theorem dp_ints : ∀ ns : List Nat, DpAll K H (ns.map vn) (ns.map fun (n : Nat) => PyData.int (n : Int))
  | [] => .nil
  | n :: ns => .cons (.int _) (dp_ints ns)
theorem IntsT.dp {ns : List Nat} (h : IntsT T H p ns) : Dp K H (.ref p) (dInts ns) := .tup (SqT.of h.2) (dp_ints ns)
theorem dp_intsL {ns : List Nat} (h : H p = some (.lst (ns.map vn))) : Dp K H (.ref p) (dIntsL ns) := .lst (SqL.of h) (dp_ints ns)
theorem dp_rows : ∀ {as : List Addr} {rs : Rws}, Paired (fun a r => IntsT T H a r) as rs → DpAll K H (as.map V.ref) (rs.map dInts)
  | _, _, .nil => .nil
  | _, _, .cons h t => .cons h.dp (dp_rows t)
theorem RowsT.dp {rs : Rws} (h : RowsT T H p rs) : Dp K H (.ref p) (dRows rs) := by
  obtain ⟨_, as, h2, h3⟩ := h
  exact .tup (SqT.of h2) (dp_rows h3)
end
theorem eqvAll_ints : ∀ a b : List Nat, PyData.eqvAll (a.map fun (n : Nat) => PyData.int (n : Int)) (b.map fun (n : Nat) => PyData.int (n : Int)) = decide (a = b)
  | [], [] => by simp [PyData.eqvAll]
  | [], _ :: _ => by simp [PyData.eqvAll]
  | _ :: _, [] => by simp [PyData.eqvAll]
  | x :: a, y :: b => by
    rw [List.map_cons, List.map_cons, PyData.eqvAll, eqvAll_ints a b, PyData.eqv]
    by_cases h : x = y
    · subst h; simp
    · have : ¬ ((x : Int) = (y : Int)) := by omega
      simp [h, this]
theorem eqv_dInts (a b : List Nat) : PyData.eqv (dInts a) (dInts b) = decide (a = b) := by rw [dInts, dInts, PyData.eqv, eqvAll_ints]
theorem eqv_dIntsL (a b : List Nat) : PyData.eqv (dIntsL a) (dIntsL b) = decide (a = b) := by rw [dIntsL, dIntsL, PyData.eqv, eqvAll_ints]
theorem eqvAll_rows : ∀ a b : Rws, PyData.eqvAll (a.map dInts) (b.map dInts) = decide (a = b)
  | [], [] => by simp [PyData.eqvAll]
  | [], _ :: _ => by simp [PyData.eqvAll]
  | _ :: _, [] => by simp [PyData.eqvAll]
  | x :: a, y :: b => by
    rw [List.map_cons, List.map_cons, PyData.eqvAll, eqvAll_rows a b, eqv_dInts]
    by_cases h : x = y
    · subst h; simp
    · simp [h]
theorem eqv_dRows (a b : Rws) : PyData.eqv (dRows a) (dRows b) = decide (a = b) := by rw [dRows, dRows, PyData.eqv, eqvAll_rows]
theorem lay_ints : ∀ a : List Nat, PyData.canLayAll0 (a.map fun (n : Nat) => PyData.int (n : Int)) = true ∧ PyData.depthAll (a.map fun (n : Nat) => PyData.int (n : Int)) = 0
  | [] => by simp [PyData.canLayAll0, PyData.depthAll]
  | x :: a => by
    have h := lay_ints a
    rw [List.map_cons, PyData.canLayAll0, PyData.depthAll, h.1, h.2]
    simp [PyData.canLay0, PyData.depth]
theorem lay_rows : ∀ a : Rws, PyData.canLayAll0 (a.map dInts) = true ∧ PyData.depthAll (a.map dInts) ≤ 1
  | [] => by simp [PyData.canLayAll0, PyData.depthAll]
  | x :: a => by
    have h := lay_rows a
    have hx := lay_ints x
    rw [List.map_cons, PyData.canLayAll0, PyData.depthAll, h.1, dInts, PyData.canLay0, PyData.depth, hx.1, hx.2]
    exact ⟨rfl, Nat.max_le.mpr ⟨by omega, h.2⟩⟩
theorem shaped_ints (a : List Nat) : SeqAt.shaped (dInts a) = true := by
  have h := lay_ints a
  unfold SeqAt.shaped
  rw [dInts, PyData.canLay0, PyData.depth, h.1, h.2]
  decide
theorem shaped_intsL (a : List Nat) : SeqAt.shaped (dIntsL a) = true := by
  have h := lay_ints a
  unfold SeqAt.shaped
  rw [dIntsL, PyData.canLay0, PyData.depth, h.1, h.2]
  decide
theorem shaped_rows (a : Rws) : SeqAt.shaped (dRows a) = true := by
  have h := lay_rows a
  unfold SeqAt.shaped
  rw [dRows, PyData.canLay0, PyData.depth, h.1, Bool.true_and]
  exact decide_eq_true (by omega)
section
variable {K : PySem.W.Frag} {H : Hp} {T T' : AS} {p q : Addr} {Q : VK}
theorem i_eqInts {a b : List Nat} (h : IntsT T H p a) (h' : IntsT T' H q b) (k : Q (.bl (decide (a = b))) H) : rEqD K (.ref p) (.ref q) H Q := ⟨_, _, h.dp, h'.dp, shaped_ints _, shaped_ints _, by rw [eqv_dInts]; exact k⟩
theorem i_eqIntsL {a b : List Nat} (h : H p = some (.lst (a.map vn))) (h' : H q = some (.lst (b.map vn))) (k : Q (.bl (decide (a = b))) H) : rEqD K (.ref p) (.ref q) H Q := ⟨_, _, dp_intsL h, dp_intsL h', shaped_intsL _, shaped_intsL _, by rw [eqv_dIntsL]; exact k⟩
theorem i_eqRows {a b : Rws} (h : RowsT T H p a) (h' : RowsT T' H q b) (k : Q (.bl (decide (a = b))) H) : rEqD K (.ref p) (.ref q) H Q := ⟨_, _, h.dp, h'.dp, shaped_rows _, shaped_rows _, by rw [eqv_dRows]; exact k⟩
end
end U
namespace U
open PySem PySem.Spec PyProof.Rows L2
theorem Same.put {H0 H : Hp} {p : Addr} {o : HO} (s : Same H0 H) (h : H0 p = none) : Same H0 (upd H p o) := fun b u e => by
  rw [upd_ne (ne_of_none e h)]
  exact s _ _ e
theorem i_cut {t u : TS} {D : Ends} {σ : L2.St} {H : Hp} (Mid : L2.St → Hp → Prop) (h1 : t { D with nx := Mid } σ H) (h2 : ∀ σ' H', Mid σ' H' → u D σ' H') : C8.tCut t u D σ H := ⟨Mid, h1, h2⟩
section
variable {P : Program} {w : World} {H : Hp} {Q : VK} {d : Addr} {k : NestedKey} {y : V} {kvs : List (NestedKey × V)}
theorem r_nnotin (n : NDict P w H d kvs) (ky : KeyAt H k y) (q : Q (.bl (!(lookN kvs k).isSome)) H) : RNNotIn P w (.ref d) y H Q := ⟨d, k, kvs, rfl, n, ky, q⟩
theorem r_nin (n : NDict P w H d kvs) (ky : KeyAt H k y) (q : Q (.bl (lookN kvs k).isSome) H) : RNIn P w (.ref d) y H Q := ⟨d, k, kvs, rfl, n, ky, q⟩
theorem r_nget {v : V} (n : NDict P w H d kvs) (ky : KeyAt H k y) (e : lookN kvs k = some v) (q : Q v H) : RNGet P w (.ref d) y H Q := ⟨d, k, kvs, v, rfl, n, ky, e, q⟩
theorem r_nput {v : V} {R : Hp → Prop} (n : NDict P w H d kvs) (ky : KeyAt H k y) (hl : kvs.length < 16777216) (q : ∀ o, NDict P w (upd H d o) d (putN kvs k v) → R (upd H d o)) : RNPut P w (.ref d) y v H R := ⟨d, k, kvs, rfl, n, ky, szlt hl, q⟩
end
end U
namespace U
theorem map_at' {α β : Type} {f : α → β} {xs : List α} {i : Nat} {x : α} (h : xs[i]? = some x) : (xs.map f)[i]? = some (f x) := by
  rw [List.getElem?_map, h]
  rfl
end U
namespace U
open L2 PySem
theorem sz1 {x : V} : [x].length ≤ sizeLine := szl (by show 1 ≤ 16777216; decide)
theorem sz2 {x y : V} : [x, y].length ≤ sizeLine := szl (by show 2 ≤ 16777216; decide)
theorem sz3 {x y z : V} : [x, y, z].length ≤ sizeLine := szl (by show 3 ≤ 16777216; decide)
end U
namespace U
open PySem PySem.Spec PyProof.Rows L2
theorem same_free {H H' : Hp} (s : Same H H') {p : Addr} (h : H' p = none) : H p = none := by
  cases e : H p with
  | none => rfl
  | some o => rw [s _ _ e] at h; cases h
/-- a list that grows beside all that stood: D fresh in H -/
theorem Same.grow {H H' : Hp} {D : Addr} {o : HO} (s : Same H H') (h : H D = none) : Same H (upd H' D o) := Same.put s h
end U
namespace U
open PySem PySem.Spec PyProof.Rows L2
theorem i_make {C : Addr} {sp : Sp} {E : XK} {t : TA} {σ : L2.St} {H : Hp} {Q : VK} (q : t σ H fun vs H1 => ∀ x dx, H1 x = none → H1 dx = none → dx ≠ x → sp (.ref x :: vs) (upd (upd H1 dx (.own x)) x (.ins C dx [])) (fun v H2 => v = .non ∧ Q (.ref x) H2) E) : tMake C sp [] E t σ H Q := by
  refine cast ?_ q
  unfold tMake
  simp only [List.append_nil]
theorem made_same {H H2 : Hp} {x dx C : Addr} (hx : H x = none) (hd : H dx = none) (k : Kp (fun b => b = x) (upd (upd H dx (.own x)) x (.ins C dx [])) H2) : Same H H2 := fun b o e => by
  have h1 : b ≠ x := fun z => by rw [z, hx] at e; cases e
  have h2 : b ≠ dx := fun z => by rw [z, hd] at e; cases e
  exact k b o h1 (by rw [upd_ne h1, upd_ne h2]; exact e)
end U
namespace U
open PySem PySem.Spec PyProof.Rows L2
theorem SqL.same {K : PySem.W.Frag} {H H' : Hp} {a : Addr} {xs : List V} (h : SqL K H a xs) (e : Same H H') : SqL K H' a xs :=
  h.elim (fun h => .inl (h.elim (fun h => .inl (e _ _ h)) fun ⟨o, h⟩ => .inr ⟨o, e _ _ h⟩)) fun h => .inr h
theorem i_lenLs {K : PySem.W.Frag} {H : Hp} {Q : VK} {p : Addr} {xs : List V} (h : SqL K H p xs) (q : Q (.int (xs.length : Nat)) H) : rLen K [.ref p] H Q := ⟨_, _, rfl, .inl ⟨xs, h, rfl⟩, q⟩
/-- a machine: rows and good rooms -/
def Mach (T : AS) (H : Hp) (p : Addr) (rs : Rws) (gd : List Nat) : Prop := ¬ T p ∧ ∃ pm pg, H p = some (.tup [.ref pm, .ref pg]) ∧ Rows T H pm rs ∧ Ints T H pg gd
theorem Mach.kp {T T' : AS} {H H' : Hp} {p : Addr} {rs : Rws} {gd : List Nat} (h : Mach T H p rs gd) (k : Kp T' H H') (i : ∀ b, T' b → T b) : Mach T H' p rs gd :=
  let ⟨h1, pm, pg, h2, h3, h4⟩ := h; ⟨h1, pm, pg, k _ _ (fun z => h1 (i _ z)) h2, h3.kp k i, h4.kp k i⟩
theorem Mach.same {T : AS} {H H' : Hp} {p : Addr} {rs : Rws} {gd : List Nat} (h : Mach T H p rs gd) (s : Same H H') : Mach T H' p rs gd := h.kp (T' := fun _ => False) (.of_same s) (fun _ z => z.elim)
theorem cutV_to3 (xs : List V) : cutV xs none (some 3) = xs.take 3 := by
  unfold cutV
  have e1 : HT.sIx xs.length 0 none = 0 := rfl
  rw [e1, List.drop_zero, Nat.sub_zero]
  by_cases h : xs.length ≤ 3
  · rw [List.take_of_length_le h]
    refine List.take_of_length_le ?_
    simp [HT.sIx]
    omega
  · congr 1
    simp [HT.sIx]
    omega
theorem intBits_lt {i : Int} {n : Nat} (h0 : 0 < n) (h : i.natAbs < 2 ^ n) : Builtin.Int.intBits i ≤ n := by
  have e : Builtin.Int.intBits i ≤ i.natAbs.log2 + 1 := by
    unfold Builtin.Int.intBits
    split <;> omega
  have := PySem.Flt.log2_lt_of h0 h
  omega
end U
namespace U
open PySem PySem.Spec PyProof.Rows L2
section
variable {S : AS} {H H' : Hp} {p D : Addr} {o : HO} {rs : Rws} {gd ns : List Nat}
theorem Ev.put (hS : Srcs S H) (e : Ev S H H') (h : H D = none) : Ev S H (upd H' D o) := ⟨fun b u n q => by
  rw [upd_ne (ne_of_none q h)]
  exact e.kp b u n q, fun a ha => by
  obtain ⟨x, y, z, q⟩ := e.src a ha
  refine ⟨x, y, z, ?_⟩
  rw [upd_ne (fun z => hS.notin h (by rw [← z]; exact ha))]
  exact q⟩
theorem Ev.at (e : Ev S H H') (n : ¬ S p) (h : H p = some o) : H' p = some o := e.kp _ _ n h
theorem Ints.ev (h : Ints S H p ns) (e : Ev S H H') : Ints S H' p ns := h.kp e.kp fun _ z => z
theorem IntsT.ev (h : IntsT S H p ns) (e : Ev S H H') : IntsT S H' p ns := h.kp e.kp fun _ z => z
theorem Rows.ev (h : Rows S H p rs) (e : Ev S H H') : Rows S H' p rs := h.kp e.kp fun _ z => z
theorem RowsT.ev (h : RowsT S H p rs) (e : Ev S H H') : RowsT S H' p rs := h.kp e.kp fun _ z => z
theorem Mach.ev (h : Mach S H p rs gd) (e : Ev S H H') : Mach S H' p rs gd := h.kp e.kp fun _ z => z
theorem Rd.ev {C : Addr} {al : List Nat} (h : Rd C S H p al rs gd) (e : Ev S H H') : Rd C S H' p al rs gd := h.kp e.kp fun _ z => z
/-- a list that grows by whole numbers drawn -/
theorem paired_ev {as : List Addr} {rws : Rws} (h : Paired (fun a r => Ints S H a r) as rws) (e : Ev S H H') : Paired (fun a r => Ints S H' a r) as rws := Paired.mapP h fun _ _ z => z.ev e
end
theorem join_sum (cs : List Nat) : ((cs.map fun c => (⟨#[c]⟩ : Str)).map (·.length)).sum = cs.length := by
  induction cs with
  | nil => rfl
  | cons c r ih =>
    rw [List.map_cons, List.map_cons, List.sum_cons, ih, List.length_cons]
    show 1 + r.length = r.length + 1
    omega
theorem i_exS {z : Str} {R : Prop} (r : R) : (∃ a, V.str z = .str a) ∧ R := ⟨⟨z, rfl⟩, r⟩
theorem joinL_one : ∀ cs : List Nat, TL.joinL [] (cs.map fun c => [c]) = cs
  | [] => rfl
  | [_] => rfl
  | c :: d :: r => by
    have ih := joinL_one (d :: r)
    rw [List.map_cons] at ih
    rw [List.map_cons, List.map_cons]
    show [c] ++ ([] ++ TL.joinL [] ([d] :: r.map fun c => [c])) = _
    rw [ih]
    rfl
theorem join_one (cs : List Nat) : Txt.join ("" : Str) (cs.map fun c => (⟨#[c]⟩ : Str)) = SX.S cs := by
  have e := SX.join_S [] (cs.map fun c => [c])
  have e1 : (cs.map fun c => [c]).map SX.S = cs.map fun c => (⟨#[c]⟩ : Str) := by
    rw [List.map_map]
    rfl
  have e2 := joinL_one cs
  rw [e1] at e
  rw [show (SX.S [] : Str) = "" from rfl] at e
  rw [e, e2]
end U
namespace U
open PySem PySem.Spec PyProof.Rows L2
section
variable {te t : TE} {tl th : L2.TO} {r : V → Option Int → Option Int → Hp → VK → Prop} {σ : L2.St} {H : Hp} {Q : VK} {QO : Option Int → Hp → Prop}
theorem i_sl (q : te σ H fun x H1 => tl σ H1 fun l H2 => th σ H2 fun u H3 => r x l u H3 Q) : L2.tSl r te tl th σ H Q := q
theorem i_noPart (q : QO none H) : tNoPart σ H QO := q
theorem i_part (q : t σ H fun x H1 => ∃ i, x = .int i ∧ QO (some i) H1) : tPart t σ H QO := q
theorem ex_intV {n : Int} {P : Int → Prop} (h : P n) : ∃ i, V.int n = .int i ∧ P i := ⟨n, rfl, h⟩
end
end U
namespace U
open PySem PySem.Spec PyProof.Rows L2
theorem paired_of {α β : Type} {F : α → β → Prop} : ∀ {xs : List α} {ys : List β}, xs.length = ys.length → (∀ (i : Nat) (x : α) (y : β), xs[i]? = some x → ys[i]? = some y → F x y) → Paired F xs ys
  | [], [], _, _ => .nil
  | [], _ :: _, h, _ => by simp at h
  | _ :: _, [], h, _ => by simp at h
  | x :: xs, y :: ys, h, f => .cons (f 0 x y rfl rfl) (paired_of (by simpa using h) fun i a b ha hb => f (i + 1) a b (by simpa using ha) (by simpa using hb))
theorem ixN_nat {n y : Nat} (h : y < n) : ixN n (y : Int) = some y := by
  unfold ixN
  rw [if_pos (by omega), if_pos (by omega), Int.toNat_natCast]
end U
namespace U
section
variable {rs : Rws}
theorem scan_step (k : Nat) : ∃ m, scanAt rs (k + 1) = scanAt rs k ++ m := addsN_pre _ _
theorem scan_mono (k j : Nat) : ∃ m, scanAt rs (k + j) = scanAt rs k ++ m := by
  induction j with
  | zero => exact ⟨[], by simp⟩
  | succ j ih =>
    obtain ⟨m, e⟩ := ih
    obtain ⟨m', e'⟩ := scan_step (rs := rs) (k + j)
    exact ⟨m ++ m', by rw [← Nat.add_assoc, e', e, List.append_assoc]⟩
theorem scan_sub {k l : Nat} (h : k ≤ l) {x : Nat} (hx : x ∈ scanAt rs k) : x ∈ scanAt rs l := by
  obtain ⟨m, e⟩ := scan_mono (rs := rs) k (l - k)
  rw [show k + (l - k) = l by omega] at e
  rw [e]
  exact List.mem_append_left _ hx
theorem addsN_same {α : Type} [DecidableEq α] {o ts : List α} (h : ∀ t ∈ ts, t ∈ o) : addsN o ts = o := by
  induction ts with
  | nil => rfl
  | cons t ts ih =>
    show addsN (addN o t) ts = o
    rw [addN, if_pos (h t (List.mem_cons_self ..))]
    exact ih fun u hu => h u (List.mem_cons_of_mem _ hu)
/-- what a room leads to comes in when it is gone through -/
theorem scan_row {k q r : Nat} (hq : q < k) (h : (scanAt rs q)[q]? = some r) {t : Nat} (ht : t ∈ row rs r) : t ∈ scanAt rs k := by
  refine scan_sub hq ?_
  show t ∈ addsN (scanAt rs q) (row rs ((scanAt rs q).getD q 0))
  rw [List.getD_eq_getElem?_getD, h]
  exact mem_addsN.mpr (.inr ht)
/-- once all are gone through nothing changes -/
theorem scan_stuck {k : Nat} (h : (scanAt rs k).length ≤ k) : scanAt rs (k + 1) = scanAt rs k := by
  show addsN (scanAt rs k) (row rs ((scanAt rs k).getD k 0)) = _
  refine addsN_same fun t ht => ?_
  rw [List.getD_eq_getElem?_getD, List.getElem?_eq_none h] at ht
  have hp := scan_pos rs k
  exact scan_row (q := 0) (by omega) (scan0 rs 0) ht
theorem scan_stays {k : Nat} (h : (scanAt rs k).length ≤ k) (j : Nat) : scanAt rs (k + j) = scanAt rs k := by
  induction j with
  | zero => rfl
  | succ j ih =>
    rw [← Nat.add_assoc]
    rw [scan_stuck (by rw [ih]; omega), ih]
theorem scan_full {k l : Nat} (h : (scanAt rs k).length ≤ k) (hl : k ≤ l) : scanAt rs l = scanAt rs k := by
  have := scan_stays h (l - k)
  rwa [show k + (l - k) = l by omega] at this
theorem scan_at {k q r : Nat} (hq : q < k) (h : (scanAt rs k)[q]? = some r) : (scanAt rs q)[q]? = some r := by
  by_cases hl : q < (scanAt rs q).length
  · obtain ⟨m, e⟩ := scan_mono (rs := rs) q (k - q)
    rw [show q + (k - q) = k by omega] at e
    rw [e, List.getElem?_append_left hl] at h
    exact h
  · rw [scan_full (Nat.le_of_not_lt hl) (Nat.le_of_lt hq)] at h
    exact h
theorem scan_closed {k : Nat} (h : (scanAt rs k).length ≤ k) {r t : Nat} (hr : r ∈ scanAt rs k) (ht : t ∈ row rs r) : t ∈ scanAt rs k := by
  obtain ⟨q, hq⟩ := List.mem_iff_getElem?.mp hr
  have hql := (List.getElem?_eq_some_iff.mp hq).1
  exact scan_row (q := q) (by omega) (scan_at (by omega) hq) ht
theorem scan_has0 (k : Nat) : 0 ∈ scanAt rs k := List.mem_of_getElem? (scan0 rs k)
end
end U
namespace U
/-- the good rooms of the least table -/
def lgood (mk : Nat → Bool) (rooms : List Nat) (g : Nat → Nat) : List Nat := (List.range (headsOf rooms g).length).filter fun r => (lmarks mk rooms g).getD r false
theorem num_lt {α : Type} [DecidableEq α] {rooms : List Nat} {sig : Nat → α} {r : Nat} (h : r ∈ rooms) : num rooms sig r < (dd (rooms.map sig)).length := pl_lt (mem_dd.mpr (List.mem_map.mpr ⟨r, h, rfl⟩))
theorem lrows_len (rs : Rws) (o : List Nat) (g : Nat → Nat) : (lrows rs o g).length = (headsOf o g).length := by
  unfold lrows
  rw [List.length_map]
theorem heads_le (o : List Nat) (g : Nat → Nat) : (headsOf o g).length ≤ o.length := by
  rw [heads_len]
  have := len_dd (o.map g)
  rwa [List.length_map] at this
theorem WFB.lrows {m : Nat} {rs : Rws} (w : WFB m rs) {i : Nat} (hi : (scanAt rs i).length = i) (g : Nat → Nat) : WFB m (lrows rs (scanAt rs i) g) where
  pos := by
    rw [lrows_len, heads_len]
    exact List.length_pos_of_mem (mem_dd.mpr (List.mem_map.mpr ⟨0, scan_has0 i, rfl⟩))
  le := by
    rw [lrows_len]
    have h1 := heads_le (scanAt rs i) g
    have h2 := w.scan_len i
    have h3 := w.le
    omega
  m3 := w.m3
  wid := fun r hr => by
    obtain ⟨h, hh, rfl⟩ := List.mem_map.mp hr
    rw [List.length_map]
    exact w.row_len (w.scan_lt i h (heads_mem hh))
  lt := fun r hr t ht => by
    obtain ⟨h, hh, rfl⟩ := List.mem_map.mp hr
    obtain ⟨u, hu, rfl⟩ := List.mem_map.mp ht
    rw [lrows_len, heads_len]
    exact num_lt (scan_closed (by omega) (heads_mem hh) hu)
theorem range_inc (n : Nat) : (List.range n).Pairwise (· < ·) := List.pairwise_lt_range
theorem GOK.filter {n : Nat} (f : Nat → Bool) : GOK n ((List.range n).filter f) := ⟨(range_inc n).filter _, fun x hx => List.mem_range.mp (List.mem_filter.mp hx).1⟩
end U
namespace U
theorem range_filter_t {f : Nat → Bool} {q : Nat} (h : f q = true) : (List.range (q + 1)).filter f = (List.range q).filter f ++ [q] := by
  rw [List.range_succ, List.filter_append, List.filter_cons_of_pos h, List.filter_nil]
theorem range_filter_f {f : Nat → Bool} {q : Nat} (h : f q = false) : (List.range (q + 1)).filter f = (List.range q).filter f := by
  rw [List.range_succ, List.filter_append, List.filter_cons_of_neg (by rw [h]; decide), List.filter_nil, List.append_nil]
end U
namespace U
open PySem
mutual
def clsB (rs : Rws) (gd : List Nat) : Nat → Nat → Nat
  | 0, p => if p ∈ gd then 1 else 0
  | k + 1, p => pl (dd ((List.range rs.length).map fun q => NestedKey.tup [nkN (clsB rs gd k q), .tup ((row rs q).map fun t => nkN (clsB rs gd k t))])) (.tup [nkN (clsB rs gd k p), .tup ((row rs p).map fun t => nkN (clsB rs gd k t))])
end
/-- what a room shows in round k + 1 -/
def sigB (rs : Rws) (gd : List Nat) (k : Nat) (p : Nat) : NestedKey := .tup [nkN (clsB rs gd (k - 1) p), .tup ((row rs p).map fun t => nkN (clsB rs gd (k - 1) t))]
theorem clsB_eq (rs : Rws) (gd : List Nat) (k p : Nat) : clsB rs gd (k + 1) p = num (List.range rs.length) (sigB rs gd (k + 1)) p := by
  simp only [clsB, num]
  rfl
end U
namespace U
section
variable {α β : Type} [DecidableEq α] [DecidableEq β]
theorem dd_map_on {f : α → β} (l : List α) (hf : ∀ x ∈ l, ∀ y ∈ l, f x = f y → x = y) : dd (l.map f) = (dd l).map f := by
  induction l using rev_ind with
  | h0 => rfl
  | hs l x ih =>
    have ih' := ih fun a ha b hb => hf a (List.mem_append_left _ ha) b (List.mem_append_left _ hb)
    rw [List.map_append, List.map_singleton, dd_snoc, dd_snoc, ih']
    unfold addN
    have e : f x ∈ (dd l).map f ↔ x ∈ dd l := ⟨fun h => by
      obtain ⟨y, hy, e⟩ := List.mem_map.mp h
      rw [← hf y (List.mem_append_left _ (mem_dd.mp hy)) x (List.mem_append_right _ (List.mem_singleton.mpr rfl)) e]
      exact hy, fun h => List.mem_map.mpr ⟨x, h, rfl⟩⟩
    by_cases h : x ∈ dd l
    · rw [if_pos h, if_pos (e.mpr h)]
    · rw [if_neg h, if_neg (fun z => h (e.mp z)), List.map_append]
      rfl
theorem pl_inj {l : List α} {x y : α} (hx : x ∈ l) (hy : y ∈ l) (h : pl l x = pl l y) : x = y := by
  have h1 := pl_at hx
  have h2 := pl_at hy
  rw [h, h2] at h1
  exact (Option.some.inj h1).symm
theorem num_inj {rooms : List Nat} {sig : Nat → α} {x y : Nat} (hx : x ∈ rooms) (hy : y ∈ rooms) (h : num rooms sig x = num rooms sig y) : sig x = sig y :=
  pl_inj (mem_dd.mpr (List.mem_map.mpr ⟨x, hx, rfl⟩)) (mem_dd.mpr (List.mem_map.mpr ⟨y, hy, rfl⟩)) h
theorem cnt_num (rooms : List Nat) (sig : Nat → α) : cnt rooms (num rooms sig) = cnt rooms sig := by
  unfold cnt
  have e : rooms.map (num rooms sig) = (rooms.map sig).map (pl (dd (rooms.map sig))) := by
    rw [List.map_map]
    rfl
  rw [e, dd_map_on (rooms.map sig) fun x hx y hy h => pl_inj (mem_dd.mpr hx) (mem_dd.mpr hy) h, List.length_map]
/-- one that shows more has more classes; where they are as many, it shows the same -/
theorem cnt_pick (rooms : List Nat) (s : Nat → α) (u : Nat → β) (h : ∀ x ∈ rooms, ∀ y ∈ rooms, s x = s y → u x = u y) : ∃ g : α → β, ∀ x ∈ rooms, u x = g (s x) := by
  refine ⟨fun k => u ((rooms.find? fun x => decide (s x = k)).getD 0), fun x hx => ?_⟩
  show u x = u ((rooms.find? fun y => decide (s y = s x)).getD 0)
  cases e : rooms.find? fun y => decide (s y = s x) with
  | none =>
    have := List.find?_eq_none.mp e x hx
    simp at this
  | some y =>
    have h1 := List.mem_of_find?_eq_some e
    have h2 := List.find?_some e
    exact h x hx y h1 (of_decide_eq_true h2).symm
theorem cnt_le {rooms : List Nat} {s : Nat → α} {u : Nat → β} (h : ∀ x ∈ rooms, ∀ y ∈ rooms, s x = s y → u x = u y) : cnt rooms u ≤ cnt rooms s := by
  obtain ⟨g, hg⟩ := cnt_pick rooms s u h
  have z : (dd (rooms.map u)).length ≤ ((dd (rooms.map s)).map g).length := nodup_sub (nd_dd _) fun x hx => by
    obtain ⟨r, hr, rfl⟩ := List.mem_map.mp (mem_dd.mp hx)
    rw [hg r hr]
    exact List.mem_map.mpr ⟨s r, mem_dd.mpr (List.mem_map.mpr ⟨r, hr, rfl⟩), rfl⟩
  rwa [List.length_map] at z
theorem nodup_of_len : ∀ {a b : List β}, a.Nodup → (∀ x ∈ a, x ∈ b) → b.length ≤ a.length → b.Nodup
  | a, [], _, _, _ => List.nodup_nil
  | a, y :: b, ha, hs, hl => by
    by_cases hy : y ∈ b
    · have := nodup_sub (k := b) ha fun x hx => by
        rcases List.mem_cons.mp (hs x hx) with e | e
        · rw [e]; exact hy
        · exact e
      rw [List.length_cons] at hl
      omega
    · rw [List.nodup_cons]
      refine ⟨hy, nodup_of_len (a := a.erase y) (ha.erase _) (fun x hx => ?_) ?_⟩
      · have hx' := (ha.mem_erase_iff).mp hx
        rcases List.mem_cons.mp (hs x hx'.2) with e | e
        · exact (hx'.1 e).elim
        · exact e
      · by_cases hm : y ∈ a
        · rw [List.length_erase_of_mem hm]
          rw [List.length_cons] at hl
          omega
        · rw [List.erase_of_not_mem hm]
          rw [List.length_cons] at hl
          omega
theorem map_inj_of_nodup {γ : Type} {f : γ → β} : ∀ {l : List γ}, (l.map f).Nodup → ∀ x ∈ l, ∀ y ∈ l, f x = f y → x = y
  | [], _, _, h, _, _, _ => by cases h
  | a :: l, h, x, hx, y, hy, e => by
    rw [List.map_cons, List.nodup_cons] at h
    rcases List.mem_cons.mp hx with ex | hx1
    · rcases List.mem_cons.mp hy with ey | hy1
      · rw [ex, ey]
      · exact (h.1 (by rw [← ex, e]; exact List.mem_map.mpr ⟨y, hy1, rfl⟩)).elim
    · rcases List.mem_cons.mp hy with ey | hy1
      · exact (h.1 (by rw [← ey, ← e]; exact List.mem_map.mpr ⟨x, hx1, rfl⟩)).elim
      · exact map_inj_of_nodup h.2 x hx1 y hy1 e
theorem cnt_eq {rooms : List Nat} {s : Nat → α} {u : Nat → β} (h : ∀ x ∈ rooms, ∀ y ∈ rooms, s x = s y → u x = u y) (hc : cnt rooms s ≤ cnt rooms u) : ∀ x ∈ rooms, ∀ y ∈ rooms, u x = u y → s x = s y := by
  obtain ⟨g, hg⟩ := cnt_pick rooms s u h
  have nd : ((dd (rooms.map s)).map g).Nodup := nodup_of_len (nd_dd (rooms.map u)) (fun x hx => by
    obtain ⟨r, hr, rfl⟩ := List.mem_map.mp (mem_dd.mp hx)
    rw [hg r hr]
    exact List.mem_map.mpr ⟨s r, mem_dd.mpr (List.mem_map.mpr ⟨r, hr, rfl⟩), rfl⟩) (by rw [List.length_map]; exact hc)
  intro x hx y hy e
  rw [hg x hx, hg y hy] at e
  exact map_inj_of_nodup nd _ (mem_dd.mpr (List.mem_map.mpr ⟨x, hx, rfl⟩)) _ (mem_dd.mpr (List.mem_map.mpr ⟨y, hy, rfl⟩)) e
end
theorem nkN_inj {a b : Nat} (h : nkN a = nkN b) : a = b := by
  unfold nkN at h
  injection h with h
  omega
theorem nk_map_inj : ∀ {a b : List Nat}, a.map nkN = b.map nkN → a = b
  | [], [], _ => rfl
  | [], _ :: _, h => by cases h
  | _ :: _, [], h => by cases h
  | x :: a, y :: b, h => by
    rw [List.map_cons, List.map_cons, List.cons.injEq] at h
    rw [nkN_inj h.1, nk_map_inj h.2]
theorem sigB_fst {rs : Rws} {gd : List Nat} {k p q : Nat} (h : sigB rs gd (k + 1) p = sigB rs gd (k + 1) q) : clsB rs gd k p = clsB rs gd k q := by
  unfold sigB at h
  injection h with h
  rw [List.cons.injEq] at h
  exact nkN_inj h.1
theorem cntB_grow (rs : Rws) (gd : List Nat) (k : Nat) : cnt (List.range rs.length) (clsB rs gd k) ≤ cnt (List.range rs.length) (sigB rs gd (k + 1)) := cnt_le fun _ _ _ _ h => sigB_fst h
theorem cntB_next (rs : Rws) (gd : List Nat) (k : Nat) : cnt (List.range rs.length) (clsB rs gd (k + 1)) = cnt (List.range rs.length) (sigB rs gd (k + 1)) := by
  have e : clsB rs gd (k + 1) = num (List.range rs.length) (sigB rs gd (k + 1)) := funext fun p => clsB_eq rs gd k p
  rw [e, cnt_num]
theorem cnt_len {α : Type} [DecidableEq α] (rooms : List Nat) (s : Nat → α) : cnt rooms s ≤ rooms.length := by
  have := len_dd (rooms.map s)
  rwa [List.length_map] at this
end U
namespace U
open PySem
/-- the same texts from p and from p' -/
def LangEq (m : Nat) (rs : Rws) (gd : List Nat) (p : Nat) (rs' : Rws) (gd' : List Nat) (p' : Nat) : Prop := ∀ w : List Nat, (∀ a ∈ w, a < m) → (run rs p w ∈ gd ↔ run rs' p' w ∈ gd')
theorem LangEq.step {m : Nat} {rs : Rws} {gd : List Nat} {p : Nat} {rs' : Rws} {gd' : List Nat} {p' : Nat} (h : LangEq m rs gd p rs' gd' p') {a : Nat} (ha : a < m) : LangEq m rs gd (stp rs p a) rs' gd' (stp rs' p' a) := fun w hw => h (a :: w) fun b hb => by
  rcases List.mem_cons.mp hb with e | e
  · rw [e]; exact ha
  · exact hw b e
theorem LangEq.here {m : Nat} {rs : Rws} {gd : List Nat} {p : Nat} {rs' : Rws} {gd' : List Nat} {p' : Nat} (h : LangEq m rs gd p rs' gd' p') : p ∈ gd ↔ p' ∈ gd' := h [] (by simp)
theorem LangEq.symm {m : Nat} {rs : Rws} {gd : List Nat} {p : Nat} {rs' : Rws} {gd' : List Nat} {p' : Nat} (h : LangEq m rs gd p rs' gd' p') : LangEq m rs' gd' p' rs gd p := fun w hw => (h w hw).symm
theorem LangEq.trans {m : Nat} {rs : Rws} {gd : List Nat} {p : Nat} {rs' : Rws} {gd' : List Nat} {p' : Nat} {rs2 : Rws} {gd2 : List Nat} {p2 : Nat} (h : LangEq m rs gd p rs' gd' p') (h' : LangEq m rs' gd' p' rs2 gd2 p2) : LangEq m rs gd p rs2 gd2 p2 := fun w hw => (h w hw).trans (h' w hw)
/-- least, in order -/
structure Canon (m : Nat) (rs : Rws) (gd : List Nat) : Prop where
  ord : scanAt rs rs.length = List.range rs.length
  sep : ∀ p q, p < rs.length → q < rs.length → LangEq m rs gd p rs gd q → p = q
/-- where the parting by number stands still, each room is alone -/
theorem clsB_sub (rs : Rws) (gd : List Nat) : ∀ k p q, p < rs.length → q < rs.length → clsB rs gd k p = clsB rs gd k q → (p ∈ gd ↔ q ∈ gd)
  | 0, p, q, _, _, h => by
    simp only [clsB] at h
    by_cases hp : p ∈ gd
    · by_cases hq : q ∈ gd
      · simp [hp, hq]
      · rw [if_pos hp, if_neg hq] at h
        cases h
    · by_cases hq : q ∈ gd
      · rw [if_neg hp, if_pos hq] at h
        cases h
      · simp [hp, hq]
  | k + 1, p, q, hp, hq, h => by
    rw [clsB_eq, clsB_eq] at h
    exact clsB_sub rs gd k p q hp hq (sigB_fst (num_inj (List.mem_range.mpr hp) (List.mem_range.mpr hq) h))
theorem sigB_snd {rs : Rws} {gd : List Nat} {k p q : Nat} (h : sigB rs gd (k + 1) p = sigB rs gd (k + 1) q) : (row rs p).map (clsB rs gd k) = (row rs q).map (clsB rs gd k) := by
  unfold sigB at h
  injection h with h
  rw [List.cons.injEq, List.cons.injEq] at h
  have h2 := h.2.1
  injection h2 with h2
  have e : ∀ r : Nat, (row rs r).map (fun t => nkN (clsB rs gd k t)) = ((row rs r).map (clsB rs gd k)).map nkN := fun r => by rw [List.map_map]; rfl
  have h3 : ((row rs p).map (clsB rs gd k)).map nkN = ((row rs q).map (clsB rs gd k)).map nkN := by
    rw [← e p, ← e q]
    exact h2
  exact nk_map_inj h3
theorem map_getD {f : Nat → Nat} {l l' : List Nat} {a : Nat} (h : l.map f = l'.map f) (ha : a < l.length) (ha' : a < l'.length) : f (l.getD a 0) = f (l'.getD a 0) := by
  have e : (l.map f)[a]? = (l'.map f)[a]? := by rw [h]
  rw [List.getElem?_map, List.getElem?_map, List.getElem?_eq_getElem ha, List.getElem?_eq_getElem ha'] at e
  rw [List.getD_eq_getElem?_getD, List.getD_eq_getElem?_getD, List.getElem?_eq_getElem ha, List.getElem?_eq_getElem ha']
  exact Option.some.inj e
theorem clsB_lang {m : Nat} {rs : Rws} {gd : List Nat} (w : WFB m rs) {k : Nat} (hk : cnt (List.range rs.length) (sigB rs gd (k + 1)) = cnt (List.range rs.length) (clsB rs gd k)) :
    ∀ (l : List Nat) (p q : Nat), p < rs.length → q < rs.length → (∀ a ∈ l, a < m) → clsB rs gd k p = clsB rs gd k q → (run rs p l ∈ gd ↔ run rs q l ∈ gd)
  | [], p, q, hp, hq, _, h => clsB_sub rs gd k p q hp hq h
  | a :: l, p, q, hp, hq, hl, h => by
    have hs := cnt_eq (s := sigB rs gd (k + 1)) (u := clsB rs gd k) (rooms := List.range rs.length) (fun _ _ _ _ z => sigB_fst z) (by omega) p (List.mem_range.mpr hp) q (List.mem_range.mpr hq) h
    have ha := hl a (List.mem_cons_self ..)
    exact clsB_lang w hk l (stp rs p a) (stp rs q a) (w.stp_lt hp ha) (w.stp_lt hq ha) (fun b hb => hl b (List.mem_cons_of_mem _ hb)) (map_getD (sigB_snd hs) (by rw [w.row_len hp]; exact ha) (by rw [w.row_len hq]; exact ha))
theorem Canon.classes {m : Nat} {rs : Rws} {gd : List Nat} (w : WFB m rs) (c : Canon m rs gd) {k : Nat} (hk : cnt (List.range rs.length) (sigB rs gd (k + 1)) = cnt (List.range rs.length) (clsB rs gd k)) : cnt (List.range rs.length) (sigB rs gd (k + 1)) = rs.length := by
  rw [hk]
  have h1 : ∀ x ∈ List.range rs.length, ∀ y ∈ List.range rs.length, clsB rs gd k x = clsB rs gd k y → x = y := fun x hx y hy h => by
    rw [List.mem_range] at hx hy
    exact c.sep x y hx hy fun l hl => clsB_lang w hk l x y hx hy hl h
  have h2 : cnt (List.range rs.length) id ≤ cnt (List.range rs.length) (clsB rs gd k) := cnt_le h1
  have h3 : cnt (List.range rs.length) id = rs.length := by
    unfold cnt
    rw [List.map_id]
    have hn : (List.range rs.length).Nodup := (range_inc _).imp fun z => Nat.ne_of_lt z
    have h4 := nodup_sub hn fun x hx => (mem_dd (l := List.range rs.length)).mpr hx
    have h5 := len_dd (List.range rs.length)
    rw [List.length_range] at h4 h5
    omega
  have h6 := cnt_len (List.range rs.length) (clsB rs gd k)
  rw [List.length_range] at h6
  omega
end U
namespace U
abbrev It := List Nat × Nat × Nat
def ItOk (m : Nat) (A : Rws) (p0 : Nat) (B : Rws) (q0 : Nat) (k : Nat) (prs : List (Nat × Nat)) (it : It) : Prop := (∀ a ∈ it.1, a < m) ∧ it.1.length = k ∧ run A p0 it.1 = it.2.1 ∧ run B q0 it.1 = it.2.2 ∧ it.2 ∈ prs
def Dn (m : Nat) (A : Rws) (gA : List Nat) (B : Rws) (gB : List Nat) (prs : List (Nat × Nat)) (pr : Nat × Nat) : Prop := (pr.1 ∈ gA ↔ pr.2 ∈ gB) ∧ ∀ a, a < m → (stp A pr.1 a, stp B pr.2 a) ∈ prs
theorem Dn.mono {m : Nat} {A : Rws} {gA : List Nat} {B : Rws} {gB : List Nat} {prs prs' : List (Nat × Nat)} {pr : Nat × Nat} (h : Dn m A gA B gB prs pr) (s : ∀ x ∈ prs, x ∈ prs') : Dn m A gA B gB prs' pr := ⟨h.1, fun a ha => s _ (h.2 a ha)⟩
theorem ItOk.mono {m : Nat} {A : Rws} {p0 : Nat} {B : Rws} {q0 k : Nat} {prs prs' : List (Nat × Nat)} {it : It} (h : ItOk m A p0 B q0 k prs it) (s : ∀ x ∈ prs, x ∈ prs') : ItOk m A p0 B q0 k prs' it := ⟨h.1, h.2.1, h.2.2.1, h.2.2.2.1, s _ h.2.2.2.2⟩
theorem dn_all {m : Nat} {A : Rws} {gA : List Nat} {B : Rws} {gB : List Nat} {prs : List (Nat × Nat)} (h : ∀ pr ∈ prs, Dn m A gA B gB prs pr) : ∀ (w : List Nat) (pr : Nat × Nat), pr ∈ prs → (∀ a ∈ w, a < m) → (run A pr.1 w ∈ gA ↔ run B pr.2 w ∈ gB)
  | [], pr, hp, _ => (h pr hp).1
  | a :: w, pr, hp, hw => dn_all h w _ ((h pr hp).2 a (hw a (List.mem_cons_self ..))) fun b hb => hw b (List.mem_cons_of_mem _ hb)
/-- behind i items of the level lv, at the letter t of the next one -/
structure Lev (m : Nat) (A : Rws) (gA : List Nat) (p0 : Nat) (B : Rws) (gB : List Nat) (q0 k : Nat) (lv open_ lt : List It) (prs : List (Nat × Nat)) (cur : Nat × Nat → Prop) : Prop where
  nd : prs.Nodup
  rng : ∀ pr ∈ prs, pr.1 < A.length ∧ pr.2 < B.length
  st : (p0, q0) ∈ prs
  lvo : ∀ it ∈ lv, ItOk m A p0 B q0 k prs it
  lto : ∀ it ∈ lt, ItOk m A p0 B q0 (k + 1) prs it
  dn : ∀ pr ∈ prs, (∃ it ∈ open_, it.2 = pr) ∨ (∃ it ∈ lt, it.2 = pr) ∨ Dn m A gA B gB prs pr ∨ cur pr
  gr : lv ≠ [] → k + 1 + lt.length ≤ prs.length
  em : lv = [] → lt = []
  ll : lt.length ≤ prs.length
section
variable {m : Nat} {A : Rws} {gA : List Nat} {p0 : Nat} {B : Rws} {gB : List Nat} {q0 k : Nat} {lv op lt : List It} {prs : List (Nat × Nat)} {cur : Nat × Nat → Prop}
/-- a pair that was met -/
theorem Lev.add (h : Lev m A gA p0 B gB q0 k lv op lt prs cur) {it : It} (hit : ItOk m A p0 B q0 (k + 1) (prs ++ [it.2]) it) (hne : lv ≠ []) (hn : it.2 ∉ prs) (hr : it.2.1 < A.length ∧ it.2.2 < B.length) : Lev m A gA p0 B gB q0 k lv op (lt ++ [it]) (prs ++ [it.2]) cur where
  nd := by
    rw [List.nodup_append]
    exact ⟨h.nd, by simp, fun x hx y hy e => hn (by rw [← List.mem_singleton.mp hy, ← e]; exact hx)⟩
  rng := fun pr hpr => by
    rcases List.mem_append.mp hpr with e | e
    · exact h.rng pr e
    · rw [List.mem_singleton.mp e]; exact hr
  st := List.mem_append_left _ h.st
  lvo := fun i hi => (h.lvo i hi).mono fun x hx => List.mem_append_left _ hx
  lto := fun i hi => by
    rcases List.mem_append.mp hi with e | e
    · exact (h.lto i e).mono fun x hx => List.mem_append_left _ hx
    · rw [List.mem_singleton.mp e]; exact hit
  dn := fun pr hpr => by
    rcases List.mem_append.mp hpr with e | e
    · rcases h.dn pr e with z | ⟨i, hi, z⟩ | z | z
      · exact .inl z
      · exact .inr (.inl ⟨i, List.mem_append_left _ hi, z⟩)
      · exact .inr (.inr (.inl (z.mono fun x hx => List.mem_append_left _ hx)))
      · exact .inr (.inr (.inr z))
    · exact .inr (.inl ⟨it, List.mem_append_right _ (List.mem_singleton.mpr rfl), (List.mem_singleton.mp e).symm⟩)
  gr := fun z => by
    have := h.gr z
    rw [List.length_append, List.length_append]
    show k + 1 + (lt.length + 1) ≤ prs.length + 1
    omega
  em := fun z => (hne z).elim
  ll := by
    have := h.ll
    rw [List.length_append, List.length_append]
    show lt.length + 1 ≤ prs.length + 1
    omega
theorem Lev.weak {op' : List It} {cur' : Nat × Nat → Prop} (h : Lev m A gA p0 B gB q0 k lv op lt prs cur) (hd : ∀ pr ∈ prs, ((∃ it ∈ op, it.2 = pr) ∨ cur pr) → ((∃ it ∈ op', it.2 = pr) ∨ (∃ it ∈ lt, it.2 = pr) ∨ Dn m A gA B gB prs pr ∨ cur' pr)) : Lev m A gA p0 B gB q0 k lv op' lt prs cur' :=
  ⟨h.nd, h.rng, h.st, h.lvo, h.lto, fun pr hpr => by
    rcases h.dn pr hpr with z | z | z | z
    · exact hd pr hpr (.inl z)
    · exact .inr (.inl z)
    · exact .inr (.inr (.inl z))
    · exact hd pr hpr (.inr z), h.gr, h.em, h.ll⟩
/-- the level is gone through -/
theorem Lev.next (h : Lev m A gA p0 B gB q0 k lv [] lt prs fun _ => False) : Lev m A gA p0 B gB q0 (k + 1) lt lt [] prs fun _ => False where
  nd := h.nd
  rng := h.rng
  st := h.st
  lvo := h.lto
  lto := fun it hi => by cases hi
  dn := fun pr hpr => by
    rcases h.dn pr hpr with ⟨i, hi, _⟩ | z | z | z
    · cases hi
    · exact .inl z
    · exact .inr (.inr (.inl z))
    · exact z.elim
  gr := fun z => by
    have h1 : lv ≠ [] := fun e => z (h.em e)
    have h2 := h.gr h1
    have h3 : 0 < lt.length := List.length_pos_iff.mpr z
    rw [List.length_nil]
    omega
  em := fun _ => rfl
  ll := Nat.zero_le _
theorem Lev.start (h0 : p0 < A.length) (h1 : q0 < B.length) : Lev m A gA p0 B gB q0 0 [([], p0, q0)] [([], p0, q0)] [] [(p0, q0)] fun _ => False where
  nd := by simp
  rng := fun pr hpr => by rw [List.mem_singleton.mp hpr]; exact ⟨h0, h1⟩
  st := List.mem_singleton.mpr rfl
  lvo := fun it hi => by
    rw [List.mem_singleton.mp hi]
    exact ⟨by simp, rfl, rfl, rfl, List.mem_singleton.mpr rfl⟩
  lto := fun it hi => by cases hi
  dn := fun pr hpr => .inl ⟨_, List.mem_singleton.mpr rfl, (List.mem_singleton.mp hpr).symm⟩
  gr := fun _ => by simp
  em := fun z => by cases z
  ll := Nat.zero_le _
/-- all is gone through -/
theorem Lev.lang (h : Lev m A gA p0 B gB q0 k lv lv [] prs fun _ => False) (e : lv = []) : LangEq m A gA p0 B gB q0 := fun w hw => dn_all (prs := prs) (fun pr hpr => by
  rcases h.dn pr hpr with ⟨i, hi, _⟩ | ⟨i, hi, _⟩ | z | z
  · rw [e] at hi; cases hi
  · cases hi
  · exact z
  · exact z.elim) w (p0, q0) h.st hw
end
end U
namespace U
theorem Canon.at_lt {m : Nat} {rs : Rws} {gd : List Nat} (c : Canon m rs gd) {i : Nat} (hi : i < rs.length) : i < (scanAt rs i).length := by
  refine Classical.byContradiction fun hn => ?_
  have h1 := scan_full (rs := rs) (Nat.le_of_not_lt hn) (Nat.le_of_lt hi)
  have h2 := congrArg List.length h1
  rw [c.ord, List.length_range] at h2
  omega
theorem Canon.at {m : Nat} {rs : Rws} {gd : List Nat} (c : Canon m rs gd) {i : Nat} (hi : i < rs.length) : (scanAt rs i)[i]? = some i := by
  obtain ⟨r, hr⟩ : ∃ r, (scanAt rs i)[i]? = some r := ⟨_, List.getElem?_eq_getElem (c.at_lt hi)⟩
  obtain ⟨l, e⟩ := scan_mono (rs := rs) i (rs.length - i)
  rw [show i + (rs.length - i) = rs.length by omega, c.ord] at e
  have h := List.getElem?_range hi
  rw [e, List.getElem?_append_left (c.at_lt hi), hr] at h
  rw [hr, h]
end U
namespace U
theorem rel_lang {m : Nat} {A : Rws} {g : List Nat} {B : Rws} {g' : List Nat} (R : Nat → Nat → Prop) (hg : ∀ x y, R x y → (x ∈ g ↔ y ∈ g')) (hs : ∀ x y a, R x y → a < m → R (stp A x a) (stp B y a)) : ∀ {p q : Nat}, R p q → LangEq m A g p B g' q := fun {p q} h w => by
  induction w generalizing p q with
  | nil => exact fun _ => hg _ _ h
  | cons a w ih => exact fun hw => ih (hs _ _ a h (hw a (List.mem_cons_self ..))) fun b hb => hw b (List.mem_cons_of_mem _ hb)
theorem ins_mem {α : Type} {l : List α} {x y : α} {i : Nat} : y ∈ l.take i ++ [x] ++ l.drop i ↔ y ∈ l ∨ y = x := by
  have e : y ∈ l ↔ y ∈ l.take i ∨ y ∈ l.drop i := by
    conv => lhs; rw [← List.take_append_drop i l]
    rw [List.mem_append]
  rw [e, List.mem_append, List.mem_append, List.mem_singleton]
  constructor
  · rintro ((h | h) | h)
    · exact .inl (.inl h)
    · exact .inr h
    · exact .inl (.inr h)
  · rintro ((h | h) | h)
    · exact .inl (.inl h)
    · exact .inr h
    · exact .inl (.inr h)
theorem ins_len {α : Type} {l : List α} {x : α} {i : Nat} : (l.take i ++ [x] ++ l.drop i).length = l.length + 1 := by
  rw [List.length_append, List.length_append, List.length_take, List.length_drop, List.length_singleton]
  omega
theorem ins_0 {α : Type} {l : List α} {x y : α} {i : Nat} (hi : 1 ≤ i) (h : l[0]? = some y) : (l.take i ++ [x] ++ l.drop i)[0]? = some y := by
  obtain ⟨h1, h2⟩ := List.getElem?_eq_some_iff.mp h
  have h3 : 0 < (l.take i).length := by rw [List.length_take]; omega
  rw [List.append_assoc, List.getElem?_append_left h3, List.getElem?_take]
  rw [if_pos (by omega)]
  exact h
theorem sum_take {l : List Nat} {i c : Nat} (h : l[i]? = some c) : (l.take (i + 1)).sum = (l.take i).sum + c := by
  rw [take_at h, List.sum_append]
  simp
theorem sum_pos {l : List Nat} (h : ∀ c ∈ l, 1 ≤ c) : l.length ≤ l.sum := by
  induction l with
  | nil => simp
  | cons a l ih =>
    have := h a (List.mem_cons_self ..)
    have := ih fun c hc => h c (List.mem_cons_of_mem _ hc)
    rw [List.length_cons, List.sum_cons]
    omega
end U
namespace U
open PySem PySem.Spec PyProof.Rows L2
theorem firstMet_dd {ns : List Int} : ∀ i, i ≤ ns.length → PyProof.Rows.firstMet (fun i => ns.getD i 0) i = dd (ns.take i)
  | 0, _ => rfl
  | i + 1, hi => by
    have hlt : i < ns.length := hi
    have e1 : ns.getD i 0 = ns[i] := by
      rw [List.getD_eq_getElem?_getD, List.getElem?_eq_getElem hlt] <;> rfl
    have e2 : ns.take (i + 1) = ns.take i ++ [ns[i]] := take_at (List.getElem?_eq_getElem hlt)
    rw [PyProof.Rows.firstMet_succ, firstMet_dd i (Nat.le_of_lt hlt), e2, dd_snoc]
    show (if (dd (ns.take i)).any (· == ns.getD i 0) then dd (ns.take i) else dd (ns.take i) ++ [ns.getD i 0]) = addN (dd (ns.take i)) ns[i]
    rw [e1]
    unfold addN
    by_cases h : ns[i] ∈ dd (ns.take i)
    · rw [if_pos h, if_pos (List.any_eq_true.mpr ⟨ns[i], h, by simp⟩)]
    · rw [if_neg h, if_neg (fun z => h (by
        obtain ⟨y, hy, e⟩ := List.any_eq_true.mp z
        rw [beq_iff_eq] at e
        rw [← e]
        exact hy))]
def tLenSetG (K : PySem.W.Frag) (ta : TE) : TE := fun σ H Q => ta σ H fun x H1 => ∃ (l : Addr) (ns : List Int), x = .ref l ∧ SqL K H1 l (ns.map V.int) ∧ ns.length ≤ 4000 ∧ Q (.int ((dd ns).length : Nat)) H1
theorem pe_lenSetG {X : Cx} {a : Expr} {ta : TE} {p p2 q pos : Pos} (hg : Gl X "len") (hm : X.mg "len" = none) (hg2 : Gl X "set") (hm2 : X.mg "set" = none) (ha : PE X a ta) (hc : X.calm = true := by rfl)
    (na : starEach [a] X.env = (false, eval a X.env) :: starEach [] X.env := by rfl) : PE X (.Call (.Name "len" p) [.Call (.Name "set" p2) [a] [] q] [] pos) (tLenSetG X.K ta) := by
  refine ⟨fun pins s σ H Q I h => ?_⟩
  refine Call_ (ld_blt I hg hm boot_len ?_)
  refine PyProof.Rows.callWith_builtin1 (PyProof.Rows.args_cons ?_ rfl) rfl rfl
  refine Call_ (ld_blt I hg2 hm2 boot_set ?_)
  refine PyProof.Rows.callWith_type1 (PyProof.Rows.args_cons (thn (ha.run pins s σ H _ I h) fun v s1 ⟨x, H1, I1, r1, q1⟩ => PyProof.Rows.args_nil ?_) na) na rfl
  obtain ⟨l, ns, rfl, hq, hl, q1⟩ := q1
  cases r1
  obtain ⟨its, r, pl, hz⟩ := I1.list hq
  have hlen : its.toArray.size = ns.length := by rw [List.size_toArray, ← r.length, List.length_map]
  refine call_set_list (I1.ok.hd hc) pl.isList (by simpa using RZ.intsAre_vals r) (by rw [hlen]; unfold scanBound; omega) fun h' tk hS hk => ?_
  refine PyProof.Rows.args_nil ?_
  rw [hlen, firstMet_dd ns.length (Nat.le_refl _), List.take_length] at hS
  have hdl := len_dd ns
  obtain ⟨o, es, ep, t, ho, hex, hd, _, _, _, hf, hn⟩ := hS
  have I2 : Inv X pins σ H1 { s1 with heap := h', toks := tk } := I1.kept fun b o e => hk b o (Heap.lt_size e) e
  exact call_len_set ho hex hd hf (by rw [hn] <;> omega) ⟨.int (dd ns).length, H1, I2.tok _, ⟨_, by rw [hn]⟩, q1⟩
theorem i_lenSetG {K : PySem.W.Frag} {ta : TE} {σ : L2.St} {H : Hp} {Q : VK} (q : ta σ H fun x H1 => ∃ (l : Addr) (ns : List Int), x = .ref l ∧ SqL K H1 l (ns.map V.int) ∧ ns.length ≤ 4000 ∧ Q (.int ((dd ns).length : Nat)) H1) : tLenSetG K ta σ H Q := q
theorem dd_map_inj {α β : Type} [DecidableEq α] [DecidableEq β] {f : α → β} (hf : ∀ x y, f x = f y → x = y) (l : List α) : dd (l.map f) = (dd l).map f := by
  induction l using rev_ind with
  | h0 => rfl
  | hs l x ih =>
    rw [List.map_append, List.map_singleton, dd_snoc, dd_snoc, ih]
    unfold addN
    have e : f x ∈ (dd l).map f ↔ x ∈ dd l := ⟨fun h => by
      obtain ⟨y, hy, e⟩ := List.mem_map.mp h
      rw [← hf _ _ e]
      exact hy, fun h => List.mem_map.mpr ⟨x, h, rfl⟩⟩
    by_cases h : x ∈ dd l
    · rw [if_pos h, if_pos (e.mpr h)]
    · rw [if_neg h, if_neg (fun z => h (e.mp z)), List.map_append]
      rfl
end U
namespace U
open PySem PySem.Spec PyProof.Rows L2
theorem lenSetK {X : Cx} (K : PySem.W.Frag) (h : X.K = K) {a : Expr} {ta : TE} {p p2 q pos : Pos} (hg : Gl X "len") (hm : X.mg "len" = none) (hg2 : Gl X "set") (hm2 : X.mg "set" = none) (ha : PE X a ta) (hc : X.calm = true := by rfl)
    (na : starEach [a] X.env = (false, eval a X.env) :: starEach [] X.env := by rfl) : PE X (.Call (.Name "len" p) [.Call (.Name "set" p2) [a] [] q] [] pos) (tLenSetG K ta) := by
  subst h
  exact pe_lenSetG hg hm hg2 hm2 ha hc na
end U
namespace U
open PySem PySem.Spec PyProof.Rows L2
theorem Mach.weak {T T' : AS} {H : Hp} {p : Addr} {rs : Rws} {gd : List Nat} (h : Mach T H p rs gd) (i : ∀ b, T' b → T b) : Mach T' H p rs gd :=
  let ⟨h1, pm, pg, h2, h3, h4⟩ := h; ⟨fun z => h1 (i _ z), pm, pg, h2, h3.weak i, h4.weak i⟩
theorem Rd.weak {C : Addr} {T T' : AS} {H : Hp} {p : Addr} {al : List Nat} {rs : Rws} {gd : List Nat} (h : Rd C T H p al rs gd) (i : ∀ b, T' b → T b) : Rd C T' H p al rs gd :=
  let ⟨h1, dx, pm, pg, h2, h3, h4⟩ := h; ⟨fun z => h1 (i _ z), dx, pm, pg, h2, h3.weak i, h4.weak i⟩
theorem S_cons (c : Nat) (z : List Nat) : (⟨#[c]⟩ : Str) ++ SX.S z = SX.S (c :: z) := SX.S_cat [c] z
theorem Word.cons {al w z : List Nat} {x : Nat} (h : Word al w z) (hx : x < al.length) : Word al (x :: w) (al.getD x 0 :: z) := ⟨fun a ha => by
  rcases List.mem_cons.mp ha with e | e
  · rw [e]; exact hx
  · exact h.1 a e, by rw [List.map_cons, h.2]⟩
theorem Word.snoc {al w z : List Nat} {x : Nat} (h : Word al w z) (hx : x < al.length) : Word al (w ++ [x]) (z ++ [al.getD x 0]) := ⟨fun a ha => by
  rcases List.mem_append.mp ha with e | e
  · exact h.1 a e
  · rw [List.mem_singleton.mp e]; exact hx, by rw [List.map_append, h.2]; rfl⟩
theorem Word.app {al w z w' z' : List Nat} (h : Word al w z) (h' : Word al w' z') : Word al (w ++ w') (z ++ z') := ⟨fun a ha => by
  rcases List.mem_append.mp ha with e | e
  · exact h.1 a e
  · exact h'.1 a e, by rw [List.map_append, h.2, h'.2]⟩
end U
namespace U
open PySem PySem.Spec PyProof.Rows L2
def pk (pr : Nat × Nat) : NestedKey := .tup [nkN pr.1, nkN pr.2]
theorem pk_inj {a b : Nat × Nat} (h : pk a = pk b) : a = b := by
  unfold pk at h
  injection h with h
  rw [List.cons.injEq, List.cons.injEq] at h
  exact Prod.ext (nkN_inj h.1) (nkN_inj h.2.1)
theorem pk_mem {a : Nat × Nat} {l : List (Nat × Nat)} : pk a ∈ l.map pk ↔ a ∈ l := ⟨fun h => by
  obtain ⟨b, hb, e⟩ := List.mem_map.mp h
  rw [← pk_inj e]
  exact hb, fun h => List.mem_map.mpr ⟨a, h, rfl⟩⟩
def Prs (H : Hp) (bs : List Addr) (prs : List (Nat × Nat)) : Prop := Paired (fun a (pr : Nat × Nat) => H a = some (.tup [vn pr.1, vn pr.2])) bs prs
theorem Prs.same {H H' : Hp} {bs : List Addr} {prs : List (Nat × Nat)} (h : Prs H bs prs) (s : Same H H') : Prs H' bs prs := Paired.mapP h fun _ _ z => s _ _ z
theorem Prs.upd {H : Hp} {bs : List Addr} {prs : List (Nat × Nat)} {D : Addr} {o : HO} (h : Prs H bs prs) (n : ∀ vs, H D ≠ some (.tup vs)) : Prs (upd H D o) bs prs := Paired.mapP h fun a _ z => by
  rw [upd_ne (fun e => n _ (by rw [← e]; exact z))]
  exact z
theorem pairs_len {prs : List (Nat × Nat)} {n k : Nat} (hn : prs.Nodup) (h : ∀ pr ∈ prs, pr.1 < n ∧ pr.2 < k) : prs.length ≤ n * k := by
  have inj : ∀ a ∈ prs, ∀ b ∈ prs, a.1 * k + a.2 = b.1 * k + b.2 → a = b := fun a ha b hb e => by
    have h1 := (h a ha).2
    have h2 := (h b hb).2
    have hk : 0 < k := by omega
    have e1 : (a.1 * k + a.2) / k = a.1 := by rw [Nat.add_comm, Nat.add_mul_div_right _ _ hk, Nat.div_eq_of_lt h1, Nat.zero_add]
    have e2 : (b.1 * k + b.2) / k = b.1 := by rw [Nat.add_comm, Nat.add_mul_div_right _ _ hk, Nat.div_eq_of_lt h2, Nat.zero_add]
    have e3 : a.1 = b.1 := by rw [← e1, ← e2, e]
    rw [e3] at e
    exact Prod.ext e3 (by omega)
  have z : (prs.map fun pr => pr.1 * k + pr.2).Nodup := by
    clear h
    induction prs with
    | nil => exact List.nodup_nil
    | cons a l ih =>
      obtain ⟨h1, h2⟩ := List.nodup_cons.mp hn
      rw [List.map_cons, List.nodup_cons]
      refine ⟨fun hm => ?_, ih h2 fun x hx y hy => inj x (List.mem_cons_of_mem _ hx) y (List.mem_cons_of_mem _ hy)⟩
      obtain ⟨b, hb, e⟩ := List.mem_map.mp hm
      have := inj b (List.mem_cons_of_mem _ hb) a (List.mem_cons_self ..) e
      exact h1 (by rw [← this]; exact hb)
  have z2 := nodup_le z fun x hx => by
    obtain ⟨pr, hpr, rfl⟩ := List.mem_map.mp hx
    obtain ⟨h1, h2⟩ := h pr hpr
    have := Nat.mul_le_mul_right k (show pr.1 + 1 ≤ n from h1)
    rw [Nat.add_mul, Nat.one_mul] at this
    show pr.1 * k + pr.2 < n * k
    omega
  rwa [List.length_map] at z2
theorem RDispN {P : Program} {w : World} {σ : L2.St} {H : Hp} {Q : VK} {tk tv : TE} (q : ∀ p o, H p = none → NDict P w (upd H p o) p [] → tk σ (upd H p o) fun y H1 => tv σ H1 fun v H2 => ∃ k, KeyAt H2 k y ∧ NDict P w H2 p [] ∧ ∀ o', NDict P w (upd H2 p o') p [(k, v)] → Q (.ref p) (upd H2 p o')) : tDisp1N P w tk tv σ H Q := q
end U
namespace U
open PySem PySem.Spec PyProof.Rows L2
theorem i_break {D : Ends} {σ : L2.St} {H : Hp} (q : D.bk σ H) : tBreak D σ H := q
end U
namespace U
open PySem PySem.Spec PyProof.Rows L2
def LvAt (H : Hp) (al : List Nat) (ls : List Addr) (lv : List It) : Prop := Paired (fun a (it : It) => H a = some (.tup [.str (SX.S (it.1.map fun x => al.getD x 0)), vn it.2.1, vn it.2.2])) ls lv
theorem LvAt.same {H H' : Hp} {al : List Nat} {ls : List Addr} {lv : List It} (h : LvAt H al ls lv) (s : Same H H') : LvAt H' al ls lv := Paired.mapP h fun _ _ z => s _ _ z
theorem LvAt.upd {H : Hp} {al : List Nat} {ls : List Addr} {lv : List It} {D : Addr} {o : HO} (h : LvAt H al ls lv) (n : ∀ vs, H D ≠ some (.tup vs)) : LvAt (upd H D o) al ls lv := Paired.mapP h fun a _ z => by
  rw [upd_ne (fun e => n _ (by rw [← e]; exact z))]
  exact z
end U
namespace U
open PySem PySem.Spec PyProof.Rows L2
abbrev Plc := Option Nat × Nat
def fI : Option Nat → Int
  | none => -1
  | some p => (p : Int)
theorem fI_inj {a b : Option Nat} (h : fI a = fI b) : a = b := by
  cases a with
  | none => cases b with
    | none => rfl
    | some q => simp only [fI] at h; omega
  | some p => cases b with
    | none => simp only [fI] at h; omega
    | some q => simp only [fI] at h; congr; omega
def PlAt (H : Hp) (as : List Addr) (ps : List Plc) : Prop := Paired (fun a (p : Plc) => H a = some (.tup [.int (fI p.1), vn p.2])) as ps
theorem PlAt.kp {T : AS} {H H' : Hp} {as : List Addr} {ps : List Plc} (h : PlAt H as ps) (k : Kp T H H') (n : ∀ a vs, H a = some (.tup vs) → ¬ T a) : PlAt H' as ps := Paired.mapP h fun a _ z => k _ _ (n a _ z) z
theorem PlAt.ev {S : AS} {H H' : Hp} {as : List Addr} {ps : List Plc} (hS : Srcs S H) (h : PlAt H as ps) (e : Ev S H H') : PlAt H' as ps := h.kp e.kp fun _ _ z => hS.nottup z
theorem PlAt.upd {H : Hp} {as : List Addr} {ps : List Plc} {D : Addr} {o : HO} (h : PlAt H as ps) (n : ∀ vs, H D ≠ some (.tup vs)) : PlAt (upd H D o) as ps := Paired.mapP h fun a _ z => by
  rw [upd_ne (fun e => n _ (by rw [← e]; exact z))]
  exact z
theorem PlAt.ins {H : Hp} {as : List Addr} {ps : List Plc} {a : Addr} {p : Plc} (h : PlAt H as ps) (ha : H a = some (.tup [.int (fI p.1), vn p.2])) (i : Nat) : PlAt H (as.take i ++ [a] ++ as.drop i) (ps.take i ++ [p] ++ ps.drop i) := by
  have h1 : ∀ {xs : List Addr} {ys : List Plc} (j : Nat), PlAt H xs ys → PlAt H (xs.take j) (ys.take j) := fun {xs ys} j hh => by
    induction hh generalizing j with
    | nil => simp; exact .nil
    | cons r t ih => cases j with
      | zero => exact .nil
      | succ j => exact .cons r (ih j)
  have h2 : ∀ {xs : List Addr} {ys : List Plc} (j : Nat), PlAt H xs ys → PlAt H (xs.drop j) (ys.drop j) := fun {xs ys} j hh => by
    induction hh generalizing j with
    | nil => simp; exact .nil
    | cons r t ih => cases j with
      | zero => exact .cons r t
      | succ j => exact ih j
  have h3 : ∀ {xs : List Addr} {ys : List Plc} {us : List Addr} {ws : List Plc}, PlAt H xs ys → PlAt H us ws → PlAt H (xs ++ us) (ys ++ ws) := fun {xs ys us ws} hx hu => by
    induction hx with
    | nil => exact hu
    | cons r t ih => exact .cons r ih
  exact h3 (h3 (h1 i h) (.cons ha .nil)) (h2 i h)
def dPl (p : Plc) : PyData := .tuple [.int (fI p.1), .int (p.2 : Int)]
theorem dPl_eqv (a b : Plc) : PyData.eqv (dPl a) (dPl b) = decide (a = b) := by
  unfold dPl
  rw [PyData.eqv, PyData.eqvAll, PyData.eqvAll, PyData.eqvAll, PyData.eqv, PyData.eqv, Bool.and_true]
  by_cases h : a = b
  · subst h; simp
  · rw [decide_eq_false h]
    refine Bool.eq_false_iff.mpr fun z => h ?_
    rw [Bool.and_eq_true, beq_iff_eq, beq_iff_eq] at z
    exact Prod.ext (fI_inj z.1) (by omega)
theorem dPl_lay : ∀ ps : List Plc, PyData.canLayAll0 (ps.map dPl) = true ∧ PyData.depthAll (ps.map dPl) ≤ 1
  | [] => by simp [PyData.canLayAll0, PyData.depthAll]
  | p :: ps => by
    have h := dPl_lay ps
    rw [List.map_cons, PyData.canLayAll0, PyData.depthAll, h.1]
    simp only [dPl, PyData.canLay0, PyData.canLayAll0, PyData.depth, PyData.depthAll]
    exact ⟨rfl, Nat.max_le.mpr ⟨by decide, h.2⟩⟩
theorem PlAt.dp {K : PySem.W.Frag} {H : Hp} : ∀ {as : List Addr} {ps : List Plc}, PlAt H as ps → DpAll K H (as.map V.ref) (ps.map dPl)
  | _, _, .nil => .nil
  | _, _, .cons h t => .cons (.tup (SqT.of h) (.cons (.int _) (.cons (.int _) .nil))) (PlAt.dp t)
theorem pl_first {α : Type} [DecidableEq α] {l : List α} {x y : α} {j : Nat} (h : j < pl l x) (hy : l[j]? = some y) : y ≠ x := fun e => by
  obtain ⟨h1, h2⟩ := List.getElem?_eq_some_iff.mp hy
  unfold pl List.idxOf at h
  have h3 := List.not_of_lt_findIdx h
  simp [h2, e] at h3
theorem i_plIdx {K : PySem.W.Frag} {H : Hp} {Q : VK} {l y : Addr} {as : List Addr} {ps : List Plc} {p : Plc} (hl : H l = some (.lst (as.map V.ref))) (hp : PlAt H as ps) (hy : H y = some (.tup [.int (fI p.1), vn p.2])) (hm : p ∈ ps) (q : Q (vn (pl ps p)) H) : rIndexD K (.ref l) [.ref y] H Q := by
  have sh : SeqAt.shaped (.list (ps.map dPl)) = true := by
    have h := dPl_lay ps
    unfold SeqAt.shaped
    rw [PyData.canLay0, PyData.depth, h.1, Bool.true_and]
    exact decide_eq_true (by omega)
  have sp : SeqAt.shaped (dPl p) = true := by
    unfold SeqAt.shaped
    simp only [dPl, PyData.canLay0, PyData.canLayAll0, PyData.depth, PyData.depthAll]
    decide
  refine ⟨l, .ref y, dPl p, ps.map dPl, pl ps p, dPl p, rfl, rfl, .lst (SqL.of hl) hp.dp, .tup (SqT.of hy) (.cons (.int _) (.cons (.int _) .nil)), sh, sp, map_at' (f := dPl) (pl_at hm), by rw [dPl_eqv, decide_eq_true rfl], fun m' z' hm' hz' => ?_, q⟩
  obtain ⟨p', hp', rfl⟩ : ∃ p', ps[m']? = some p' ∧ z' = dPl p' := by
    rw [List.getElem?_map] at hz'
    cases e : ps[m']? with
    | none => rw [e] at hz'; cases hz'
    | some x => rw [e] at hz'; exact ⟨x, rfl, (Option.some.inj hz').symm⟩
  rw [dPl_eqv]
  refine decide_eq_false fun e => ?_
  rw [e] at hp'
  exact pl_first hm' hp' rfl
def rIdxD (K : PySem.W.Frag) : V → List V → Hp → VK → Prop := rIndexD K
def rInsert : V → List V → Hp → VK → Prop := fun x vs H Q => ∃ (l : Addr) (xs : List V) (i : Int) (y : V), x = .ref l ∧ vs = [.int i, y] ∧ H l = some (.lst xs) ∧ xs.length < sizeLine ∧ 0 ≤ i ∧ i < 2 ^ 63 ∧
    Q .non (upd H l (.lst (xs.take i.toNat ++ [y] ++ xs.drop i.toNat)))
theorem mt_insertR {X : Cx} : MtR X "list.insert" rInsert := mt_insert
theorem i_insert {l : Addr} {xs : List V} {i : Nat} {y : V} {H : Hp} {Q : VK} (h : H l = some (.lst xs)) (hl : xs.length < 16777216) (hi : i < 2 ^ 62) (q : Q .non (upd H l (.lst (xs.take i ++ [y] ++ xs.drop i)))) : rInsert (.ref l) [.int (i : Int), y] H Q := ⟨l, xs, i, y, rfl, rfl, h, szlt hl, by omega, by omega, by rw [Int.toNat_natCast]; exact q⟩
end U
namespace U
open PySem PySem.Spec PyProof.Rows L2
theorem units65 {k : Nat} {A : Around} (r : Room k A) : A.units + 65 < cLine := by
  have := r.un
  omega
theorem mt_indexDK {X : Cx} (K : PySem.W.Frag) (h : X.K = K) (hu : X.A.units + 65 < cLine) : MtR X "list.index" (rIndexD K) := by
  subst h
  exact mt_indexD hu
end U
namespace U
open PySem PySem.Spec PyProof.Rows L2
theorem inV_neg : ∀ ns : List Nat, inV (.int (-1)) (ns.map vn) = false
  | [] => rfl
  | a :: ns => by
    have ih := inV_neg ns
    unfold inV at ih ⊢
    rw [List.map_cons, List.any_cons, ih, Bool.or_false]
    show ((a : Int) == (-1 : Int)) = false
    rw [beq_eq_false_iff_ne]
    omega
theorem i_inNeg {K : PySem.W.Frag} {H : Hp} {Q : VK} {p : Addr} {t : Bool} {ns : List Nat} (h : H p = some (sq t (ns.map vn))) (q : Q (.bl false) H) : rIn K false (.int (-1)) (.ref p) H Q := by
  refine ⟨p, ns.map vn, rfl, ?_, rfl, flat_ints ns, ?_⟩
  · cases t with
    | false => exact .inl (SqL.of h)
    | true => exact .inr (SqT.of h)
  · rw [inV_neg ns]
    exact q
end U
namespace U
open PySem PySem.Spec PyProof.Rows L2
section
variable {C : Addr} {T : AS} {H : Hp} {p D : Addr} {al : List Nat} {rs : Rws} {gd ns : List Nat} {o : HO}
theorem IntsT.upd (h : IntsT T H p ns) (n : ∀ vs, H D ≠ some (.tup vs)) : IntsT T (upd H D o) p ns := ⟨h.1, by
  rw [upd_ne (fun e => n _ (by rw [← e]; exact h.2))]
  exact h.2⟩
theorem RowsT.upd (h : RowsT T H p rs) (n : ∀ vs, H D ≠ some (.tup vs)) : RowsT T (upd H D o) p rs := by
  obtain ⟨h1, as, h2, h3⟩ := h
  refine ⟨h1, as, ?_, Paired.mapP h3 fun _ _ z => z.upd n⟩
  rw [upd_ne (fun e => n _ (by rw [← e]; exact h2))]
  exact h2
theorem Rd.upd (h : Rd C T H p al rs gd) (n : ∀ vs, H D ≠ some (.tup vs)) (n2 : ∀ C dx fs, H D ≠ some (.ins C dx fs)) : Rd C T (upd H D o) p al rs gd := by
  obtain ⟨h1, dx, pm, pg, h2, h3, h4⟩ := h
  refine ⟨h1, dx, pm, pg, ?_, h3.upd n, h4.upd n⟩
  rw [upd_ne (fun e => n2 _ _ _ (by rw [← e]; exact h2))]
  exact h2
end
/-- a form: rows and good rooms as data -/
def Frm (H : Hp) (p : Addr) (rs : Rws) (gd : List Nat) : Prop := ∃ pm pg, H p = some (.tup [.ref pm, .ref pg]) ∧ RowsT (fun _ => False) H pm rs ∧ IntsT (fun _ => False) H pg gd
theorem Frm.same {H H' : Hp} {p : Addr} {rs : Rws} {gd : List Nat} (h : Frm H p rs gd) (s : Same H H') : Frm H' p rs gd := let ⟨pm, pg, h1, h2, h3⟩ := h; ⟨pm, pg, s _ _ h1, h2.same s, h3.same s⟩
theorem Frm.ev {S : AS} {H H' : Hp} {p : Addr} {rs : Rws} {gd : List Nat} (h : Frm H p rs gd) (hS : Srcs S H) (e : Ev S H H') : Frm H' p rs gd := by
  obtain ⟨pm, pg, h1, ⟨_, as, h2, h3⟩, _, h4⟩ := h
  exact ⟨pm, pg, e.at (hS.nottup h1) h1, ⟨fun z => z, as, e.at (hS.nottup h2) h2, Paired.mapP h3 fun _ _ z => ⟨fun z => z, e.at (hS.nottup z.2) z.2⟩⟩, fun z => z, e.at (hS.nottup h4) h4⟩
def dFrm (rs : Rws) (gd : List Nat) : PyData := .tuple [dRows rs, dInts gd]
theorem Frm.dp {K : PySem.W.Frag} {H : Hp} {p : Addr} {rs : Rws} {gd : List Nat} (h : Frm H p rs gd) : Dp K H (.ref p) (dFrm rs gd) := by
  obtain ⟨pm, pg, h1, h2, h3⟩ := h
  exact .tup (SqT.of h1) (.cons h2.dp (.cons h3.dp .nil))
theorem eqv_dFrm (a b : Rws) (g h : List Nat) : PyData.eqv (dFrm a g) (dFrm b h) = decide (a = b ∧ g = h) := by
  unfold dFrm
  rw [PyData.eqv, PyData.eqvAll, PyData.eqvAll, PyData.eqvAll, eqv_dRows, eqv_dInts, Bool.and_true]
  by_cases h1 : a = b <;> by_cases h2 : g = h <;> simp [h1, h2]
theorem shaped_dFrm (a : Rws) (g : List Nat) : SeqAt.shaped (dFrm a g) = true := by
  have h1 := lay_rows a
  have h2 := lay_ints g
  unfold SeqAt.shaped dFrm
  simp only [dRows, dInts, PyData.canLay0, PyData.canLayAll0, PyData.depth, PyData.depthAll, h1.1, h2.1, h2.2, Bool.true_and, Bool.and_true]
  have h3 : (PyData.canLayAll0 (List.map dInts a)) = true := h1.1
  have h4 : (PyData.depthAll (List.map dInts a)) ≤ 1 := h1.2
  exact decide_eq_true (by omega)
section
variable {K : PySem.W.Frag} {H : Hp} {p q : Addr} {a b : Rws} {g h : List Nat} {Q : VK}
theorem i_eqFrm (h1 : Frm H p a g) (h2 : Frm H q b h) (k : Q (.bl (decide (a = b ∧ g = h))) H) : rEqD K (.ref p) (.ref q) H Q := ⟨_, _, h1.dp, h2.dp, shaped_dFrm _ _, shaped_dFrm _ _, by rw [eqv_dFrm]; exact k⟩
theorem i_neFrm (h1 : Frm H p a g) (h2 : Frm H q b h) (k : Q (.bl (!decide (a = b ∧ g = h))) H) : rNeD K (.ref p) (.ref q) H Q := ⟨_, _, h1.dp, h2.dp, shaped_dFrm _ _, shaped_dFrm _ _, by rw [eqv_dFrm]; exact k⟩
end
end U
namespace U
open PySem PySem.Spec PyProof.Rows L2
theorem Frm.upd {H : Hp} {p D : Addr} {o : HO} {rs : Rws} {gd : List Nat} (h : Frm H p rs gd) (n : ∀ vs, H D ≠ some (.tup vs)) : Frm (upd H D o) p rs gd := by
  obtain ⟨pm, pg, h1, h2, h3⟩ := h
  refine ⟨pm, pg, ?_, h2.upd n, h3.upd n⟩
  rw [upd_ne (fun e => n _ (by rw [← e]; exact h1))]
  exact h1
end U
namespace U
open PySem
section
variable {m : Nat} {rs : Rws} {mk : Nat → Bool} {o : List Nat}
/-- all that the rooms of o lead to is in o -/
structure Cl (m : Nat) (rs : Rws) (o : List Nat) : Prop where
  lt : ∀ r ∈ o, r < rs.length
  cl : ∀ r ∈ o, ∀ t ∈ row rs r, t ∈ o
theorem Cl.stp (w : WFB m rs) (c : Cl m rs o) {r a : Nat} (hr : r ∈ o) (ha : a < m) : stp rs r a ∈ o := c.cl r hr _ (List.mem_of_getElem? (w.stp_at (c.lt r hr) ha))
theorem sigA_fst {k p q : Nat} (h : sigA rs mk o (k + 1) p = sigA rs mk o (k + 1) q) : clsA rs mk o k p = clsA rs mk o k q := by
  simp only [sigA] at h
  injection h with h
  rw [List.cons.injEq] at h
  exact nkN_inj h.1
theorem sigA_snd {k p q : Nat} (h : sigA rs mk o (k + 1) p = sigA rs mk o (k + 1) q) : (row rs p).map (clsA rs mk o k) = (row rs q).map (clsA rs mk o k) := by
  simp only [sigA] at h
  injection h with h
  rw [List.cons.injEq, List.cons.injEq] at h
  have h2 := h.2.1
  injection h2 with h2
  have e : ∀ r : Nat, (row rs r).map (fun t => nkN (clsA rs mk o k t)) = ((row rs r).map (clsA rs mk o k)).map nkN := fun r => by rw [List.map_map]; rfl
  rw [e, e] at h2
  exact nk_map_inj h2
theorem clsA_sig {k p q : Nat} (hp : p ∈ o) (hq : q ∈ o) (h : clsA rs mk o k p = clsA rs mk o k q) : sigA rs mk o k p = sigA rs mk o k q := by
  rw [clsA_eq, clsA_eq] at h
  exact num_inj hp hq h
theorem sig_clsA {k p q : Nat} (h : sigA rs mk o k p = sigA rs mk o k q) : clsA rs mk o k p = clsA rs mk o k q := by
  rw [clsA_eq, clsA_eq]
  unfold num
  rw [h]
theorem nkB_inj {a b : Bool} (h : nkB a = nkB b) : a = b := by
  unfold nkB at h
  injection h with h
  cases a <;> cases b <;> simp at h <;> rfl
theorem clsA_mk : ∀ (k : Nat) {p q : Nat}, p ∈ o → q ∈ o → clsA rs mk o k p = clsA rs mk o k q → mk p = mk q
  | 0, p, q, hp, hq, h => by
    have z := clsA_sig hp hq h
    simp only [sigA] at z
    injection z with z
    rw [List.cons.injEq] at z
    exact nkB_inj z.1
  | k + 1, p, q, hp, hq, h => clsA_mk k hp hq (sigA_fst (clsA_sig hp hq h))
/-- same texts, same class -/
theorem lang_clsA {gd : List Nat} (w : WFB m rs) (c : Cl m rs o) (hmk : mk = fun r => decide (r ∈ gd)) : ∀ (k : Nat) {p q : Nat}, p ∈ o → q ∈ o → LangEq m rs gd p rs gd q → sigA rs mk o k p = sigA rs mk o k q
  | 0, p, q, hp, hq, h => by
    simp only [sigA]
    have : mk p = mk q := by
      rw [hmk]
      exact decide_eq_decide.mpr h.here
    rw [this]
  | k + 1, p, q, hp, hq, h => by
    have h1 := sig_clsA (lang_clsA w c hmk k hp hq h)
    have h2 : (row rs p).map (fun t => nkN (clsA rs mk o k t)) = (row rs q).map (fun t => nkN (clsA rs mk o k t)) := by
      refine List.ext_getElem (by rw [List.length_map, List.length_map, w.row_len (c.lt p hp), w.row_len (c.lt q hq)]) fun a ha1 ha2 => ?_
      rw [List.length_map, w.row_len (c.lt p hp)] at ha1
      rw [List.getElem_map, List.getElem_map]
      have e1 : (row rs p)[a]'(by rw [w.row_len (c.lt p hp)]; exact ha1) = stp rs p a := by
        have := w.stp_at (c.lt p hp) ha1
        exact (List.getElem?_eq_some_iff.mp this).2
      have e2 : (row rs q)[a]'(by rw [w.row_len (c.lt q hq)]; exact ha1) = stp rs q a := by
        have := w.stp_at (c.lt q hq) ha1
        exact (List.getElem?_eq_some_iff.mp this).2
      rw [e1, e2, sig_clsA (lang_clsA w c hmk k (c.stp w hp ha1) (c.stp w hq ha1) (h.step ha1))]
    simp only [sigA]
    rw [h1, h2]
/-- where the parting stands still -/
structure Still (rs : Rws) (mk : Nat → Bool) (o : List Nat) (j : Nat) : Prop where
  le : cnt o (sigA rs mk o (j + 1)) ≤ cnt o (sigA rs mk o j)
theorem Still.up {j : Nat} (s : Still rs mk o j) {p q : Nat} (hp : p ∈ o) (hq : q ∈ o) (h : clsA rs mk o j p = clsA rs mk o j q) : sigA rs mk o (j + 1) p = sigA rs mk o (j + 1) q := by
  have e : clsA rs mk o j = num o (sigA rs mk o j) := funext fun r => clsA_eq rs mk o j r
  refine cnt_eq (s := sigA rs mk o (j + 1)) (u := clsA rs mk o j) (rooms := o) (fun _ _ _ _ z => sigA_fst z) ?_ p hp q hq h
  rw [e, cnt_num]
  exact s.le
theorem Still.step {j : Nat} (w : WFB m rs) (c : Cl m rs o) (s : Still rs mk o j) {p q a : Nat} (hp : p ∈ o) (hq : q ∈ o) (ha : a < m) (h : clsA rs mk o j p = clsA rs mk o j q) : clsA rs mk o j (stp rs p a) = clsA rs mk o j (stp rs q a) :=
  map_getD (sigA_snd (s.up hp hq h)) (by rw [w.row_len (c.lt p hp)]; exact ha) (by rw [w.row_len (c.lt q hq)]; exact ha)
theorem Still.lang {gd : List Nat} {j : Nat} (w : WFB m rs) (c : Cl m rs o) (s : Still rs mk o j) (hmk : mk = fun r => decide (r ∈ gd)) {p q : Nat} (hp : p ∈ o) (hq : q ∈ o) (h : clsA rs mk o j p = clsA rs mk o j q) : LangEq m rs gd p rs gd q :=
  rel_lang (fun x y => x ∈ o ∧ y ∈ o ∧ clsA rs mk o j x = clsA rs mk o j y) (fun x y ⟨hx, hy, e⟩ => by
    have := clsA_mk j hx hy e
    rw [hmk] at this
    exact decide_eq_decide.mp this) (fun x y a ⟨hx, hy, e⟩ ha => ⟨c.stp w hx ha, c.stp w hy ha, s.step w c hx hy ha e⟩) ⟨hp, hq, h⟩
/-- the class behind one round more tells the same -/
theorem Still.g {j : Nat} (s : Still rs mk o j) {p q : Nat} (hp : p ∈ o) (hq : q ∈ o) : clsA rs mk o (j + 1) p = clsA rs mk o (j + 1) q ↔ clsA rs mk o j p = clsA rs mk o j q :=
  ⟨fun h => sigA_fst (clsA_sig hp hq h), fun h => sig_clsA (s.up hp hq h)⟩
end
theorem dd_map_addsN {f : Nat → Nat} (l ts : List Nat) : dd ((addsN l ts).map f) = addsN (dd (l.map f)) (ts.map f) := by
  induction ts using rev_ind with
  | h0 => rfl
  | hs ts t ih =>
    rw [addsN_snoc, List.map_append, List.map_singleton, addsN_snoc, ← ih]
    unfold addN
    by_cases h : t ∈ addsN l ts
    · rw [if_pos h, if_pos (mem_dd.mpr (List.mem_map.mpr ⟨t, h, rfl⟩))]
    · rw [if_neg h, List.map_append, List.map_singleton, dd_snoc]
      rfl
theorem dd_of_nodup {α : Type} [DecidableEq α] : ∀ {l : List α}, l.Nodup → dd l = l := fun {l} => by
  induction l using rev_ind with
  | h0 => exact fun _ => rfl
  | hs l x ih =>
    intro h
    rw [List.nodup_append] at h
    rw [dd_snoc, ih h.1, addN, if_neg (fun hx => h.2.2 x hx x (List.mem_singleton.mpr rfl) rfl)]
theorem split_at' {l : List Nat} {i : Nat} {x : Nat} (h : l[i]? = some x) : l = l.take i ++ x :: l.drop (i + 1) := by
  obtain ⟨hi, e⟩ := List.getElem?_eq_some_iff.mp h
  rw [← e, ← List.drop_eq_getElem_cons hi, List.take_append_drop]
theorem dd_app (l k : List Nat) : dd (l ++ k) = addsN (dd l) k := addsN_app [] l k
theorem scan_map {A B : Rws} {f : Nat → Nat} (h0 : f 0 = 0) (hrow : ∀ k, ∀ r ∈ scanAt A k, row B (f r) = (row A r).map f) : ∀ k, dd ((scanAt A k).map f) = scanAt B (dd (((scanAt A k).take k).map f)).length
  | 0 => by
    show dd [f 0] = scanAt B 0
    rw [h0]
    rfl
  | k + 1 => by
    have ih := scan_map h0 hrow k
    by_cases hk : k < (scanAt A k).length
    · obtain ⟨r, hr⟩ : ∃ r, (scanAt A k)[k]? = some r := ⟨_, List.getElem?_eq_getElem hk⟩
      have hrm := List.mem_of_getElem? hr
      have e1 : scanAt A (k + 1) = addsN (scanAt A k) (row A r) := by
        show addsN (scanAt A k) (row A ((scanAt A k).getD k 0)) = _
        rw [List.getD_eq_getElem?_getD, hr]
        rfl
      have e2 : (scanAt A (k + 1)).take (k + 1) = (scanAt A k).take k ++ [r] := by
        obtain ⟨l, e⟩ := scan_step (rs := A) k
        rw [e, List.take_append_of_le_length hk, take_at hr]
      rw [e2, List.map_append, List.map_singleton, dd_snoc, e1, dd_map_addsN]
      by_cases hin : f r ∈ dd (((scanAt A k).take k).map f)
      · rw [addN, if_pos hin, ← ih]
        refine addsN_same fun t ht => ?_
        obtain ⟨u, hu, rfl⟩ := List.mem_map.mp ht
        obtain ⟨r', hr', e⟩ := List.mem_map.mp (mem_dd.mp hin)
        obtain ⟨q, hq⟩ := List.mem_iff_getElem?.mp hr'
        have hq1 : q < k := by
          have := (List.getElem?_eq_some_iff.mp hq).1
          rw [List.length_take] at this
          omega
        rw [List.getElem?_take, if_pos hq1] at hq
        have hm : f u ∈ (row A r').map f := by
          rw [← hrow k r' (List.mem_of_getElem? hq), e, hrow k r hrm]
          exact List.mem_map.mpr ⟨u, hu, rfl⟩
        obtain ⟨v, hv, e'⟩ := List.mem_map.mp hm
        exact mem_dd.mpr (List.mem_map.mpr ⟨v, scan_row hq1 (scan_at hq1 hq) hv, e'⟩)
      · rw [addN, if_neg hin, List.length_append]
        show _ = scanAt B ((dd (((scanAt A k).take k).map f)).length + 1)
        show _ = addsN (scanAt B (dd (((scanAt A k).take k).map f)).length) (row B ((scanAt B (dd (((scanAt A k).take k).map f)).length).getD (dd (((scanAt A k).take k).map f)).length 0))
        rw [← ih]
        have e3 : (dd ((scanAt A k).map f))[(dd (((scanAt A k).take k).map f)).length]? = some (f r) := by
          have e4 : (scanAt A k).map f = ((scanAt A k).take k).map f ++ f r :: ((scanAt A k).drop (k + 1)).map f := by
            conv => lhs; rw [split_at' hr]
            rw [List.map_append, List.map_cons]
          have e5 : ((scanAt A k).take k).map f ++ f r :: ((scanAt A k).drop (k + 1)).map f = (((scanAt A k).take k).map f ++ [f r]) ++ ((scanAt A k).drop (k + 1)).map f := by simp
          rw [e4, e5, dd_app, dd_snoc, addN, if_neg hin]
          obtain ⟨l, hl⟩ := addsN_pre (dd (((scanAt A k).take k).map f) ++ [f r]) (((scanAt A k).drop (k + 1)).map f)
          rw [hl, List.append_assoc, List.getElem?_append_right (Nat.le_refl _), Nat.sub_self]
          rfl
        rw [List.getD_eq_getElem?_getD, e3]
        show _ = addsN _ (row B (f r))
        rw [hrow k r hrm]
    · have e1 := scan_stuck (rs := A) (Nat.le_of_not_lt hk)
      rw [e1, List.take_of_length_le (by omega)]
      rw [List.take_of_length_le (Nat.le_of_not_lt hk)] at ih
      exact ih
end U
namespace U
open PySem
theorem pl_map_range {l : List Nat} (h : l.Nodup) : l.map (pl l) = List.range l.length := by
  refine List.ext_getElem (by rw [List.length_map, List.length_range]) fun i h1 h2 => ?_
  rw [List.length_map] at h1
  rw [List.getElem_map, List.getElem_range]
  have h3 := pl_at (List.getElem_mem h1)
  obtain ⟨h4, h5⟩ := List.getElem?_eq_some_iff.mp h3
  have pw := List.pairwise_iff_getElem.mp h
  rcases Nat.lt_trichotomy (pl l l[i]) i with z | z | z
  · exact (pw _ i h4 h1 z h5).elim
  · exact z
  · exact (pw i _ h1 h4 z h5.symm).elim
section
variable {m : Nat} {rs : Rws} {gd : List Nat} {i j : Nat}
theorem scan_cl (w : WFB m rs) (hi : (scanAt rs i).length = i) : Cl m rs (scanAt rs i) := ⟨w.scan_lt i, fun r hr t ht => scan_closed (by omega) hr ht⟩
/-- the room of the least table in which r is -/
def cl0 (o : List Nat) (g : Nat → Nat) (r : Nat) : Nat := num o g r
theorem head_of {o : List Nat} {g : Nat → Nat} {r : Nat} (hr : r ∈ o) : ∃ h, (headsOf o g)[num o g r]? = some h ∧ h ∈ o ∧ g h = g r := by
  have h1 : g r ∈ dd (o.map g) := mem_dd.mpr (List.mem_map.mpr ⟨r, hr, rfl⟩)
  have h2 := pl_at h1
  rw [← heads_map] at h2
  obtain ⟨h, hh, e⟩ : ∃ h, (headsOf o g)[pl ((headsOf o g).map g) (g r)]? = some h ∧ g h = g r := by
    rw [List.getElem?_map] at h2
    cases q : (headsOf o g)[pl ((headsOf o g).map g) (g r)]? with
    | none => rw [q] at h2; cases h2
    | some h => rw [q] at h2; exact ⟨h, rfl, Option.some.inj h2⟩
  rw [heads_map] at hh
  exact ⟨h, hh, heads_mem (List.mem_of_getElem? hh), e⟩
theorem num_congr {o : List Nat} {g : Nat → Nat} {r s : Nat} (h : g r = g s) : num o g r = num o g s := by
  unfold num
  rw [h]
theorem map_at'' {xs : List Nat} {f : Nat → Nat} {i x : Nat} (h : xs[i]? = some x) : (xs.map f)[i]? = some (f x) := by
  rw [List.getElem?_map, h]
  rfl
theorem num_heads {o : List Nat} {g : Nat → Nat} {p h : Nat} (hp : (headsOf o g)[p]? = some h) : num o g h = p := by
  have h1 : (dd (o.map g))[p]? = some (g h) := by
    rw [← heads_map]
    exact map_at'' hp
  have h2 : g h ∈ dd (o.map g) := List.mem_of_getElem? h1
  have h3 := pl_at h2
  obtain ⟨a1, a2⟩ := List.getElem?_eq_some_iff.mp h1
  obtain ⟨b1, b2⟩ := List.getElem?_eq_some_iff.mp h3
  have pw := List.pairwise_iff_getElem.mp (nd_dd (o.map g))
  rcases Nat.lt_trichotomy (pl (dd (o.map g)) (g h)) p with z | z | z
  · exact (pw _ p b1 a1 z (b2.trans a2.symm)).elim
  · exact z
  · exact (pw p _ a1 b1 z (a2.trans b2.symm)).elim
theorem row_map_eq (w : WFB m rs) {p q : Nat} {f : Nat → Nat} (hp : p < rs.length) (hq : q < rs.length) (h : ∀ a, a < m → f (stp rs p a) = f (stp rs q a)) : (row rs p).map f = (row rs q).map f := by
  refine List.ext_getElem (by rw [List.length_map, List.length_map, w.row_len hp, w.row_len hq]) fun a ha1 ha2 => ?_
  rw [List.length_map, w.row_len hp] at ha1
  rw [List.getElem_map, List.getElem_map]
  have e1 : (row rs p)[a]'(by rw [w.row_len hp]; exact ha1) = stp rs p a := (List.getElem?_eq_some_iff.mp (w.stp_at hp ha1)).2
  have e2 : (row rs q)[a]'(by rw [w.row_len hq]; exact ha1) = stp rs q a := (List.getElem?_eq_some_iff.mp (w.stp_at hq ha1)).2
  rw [e1, e2, h a ha1]
theorem stp_of_row {A : Rws} {p a : Nat} {l : List Nat} {f : Nat → Nat} (h : row A p = l.map f) {v : Nat} (ha : l[a]? = some v) : stp A p a = f v := by
  unfold stp
  rw [h, List.getD_eq_getElem?_getD, List.getElem?_map, ha]
  rfl
end
/-- what least tells -/
structure LeastOf (rs : Rws) (gd : List Nat) (A : Rws) (gA : List Nat) : Prop where
  ex : ∃ (j i : Nat) (o : List Nat) (g : Nat → Nat), o = scanAt rs i ∧ o.length = i ∧ cnt o (sigA rs (fun r => decide (r ∈ gd)) o (j + 1)) ≤ cnt o (sigA rs (fun r => decide (r ∈ gd)) o j) ∧ g = clsA rs (fun r => decide (r ∈ gd)) o (j + 1) ∧ A = lrows rs o g ∧ gA = lgood (fun r => decide (r ∈ gd)) o g
section
variable {m : Nat} {rs A : Rws} {gd gA : List Nat}
theorem LeastOf.main (w : WFB m rs) (h : LeastOf rs gd A gA) : WFB m A ∧ GOK A.length gA ∧ LangEq m rs gd 0 A gA 0 ∧ Canon m A gA := by
  obtain ⟨j, i, o, g, ho, hi, hs, hg, hA, hgA⟩ := h.ex
  have hi' : (scanAt rs i).length = i := by rw [← ho]; exact hi
  have c : Cl m rs o := by rw [ho]; exact scan_cl w hi'
  have s : Still rs (fun r => decide (r ∈ gd)) o j := ⟨hs⟩
  have hwA : WFB m A := by rw [hA, ho]; exact w.lrows hi' g
  have hAl : A.length = (headsOf o g).length := by rw [hA]; exact lrows_len rs o g
  have hgok : GOK A.length gA := by rw [hAl, hgA]; exact GOK.filter _
  have gq : ∀ {p q : Nat}, p ∈ o → q ∈ o → (g p = g q ↔ clsA rs (fun r => decide (r ∈ gd)) o j p = clsA rs (fun r => decide (r ∈ gd)) o j q) := fun hp hq => by rw [hg]; exact s.g hp hq
  -- rows of the least table
  have hrow : ∀ r ∈ o, row A (num o g r) = (row rs r).map (num o g) := fun r hr => by
    obtain ⟨h, hh, hho, e⟩ := head_of hr
    have e1 : A[num o g r]? = some ((row rs h).map (num o g)) := by
      rw [hA]
      unfold lrows
      rw [List.getElem?_map, hh]
      rfl
    have e2 : row A (num o g r) = (row rs h).map (num o g) := by
      unfold row
      rw [List.getD_eq_getElem?_getD, e1]
      rfl
    rw [e2]
    refine row_map_eq w (c.lt h hho) (c.lt r hr) fun a ha => num_congr ?_
    rw [gq (c.stp w hho ha) (c.stp w hr ha)]
    exact s.step w c hho hr ha ((gq hho hr).mp e)
  have hstp : ∀ r ∈ o, ∀ a, a < m → stp A (num o g r) a = num o g (stp rs r a) := fun r hr a ha => stp_of_row (hrow r hr) (w.stp_at (c.lt r hr) ha)
  have hgood : ∀ r ∈ o, (r ∈ gd ↔ num o g r ∈ gA) := fun r hr => by
    obtain ⟨h, hh, hho, e⟩ := head_of hr
    have hlt := (List.getElem?_eq_some_iff.mp hh).1
    have e1 : (lmarks (fun r => decide (r ∈ gd)) o g).getD (num o g r) false = decide (h ∈ gd) := by
      unfold lmarks
      rw [List.getD_eq_getElem?_getD, List.getElem?_map, hh]
      rfl
    have e2 : (decide (h ∈ gd)) = decide (r ∈ gd) := clsA_mk j hho hr ((gq hho hr).mp e)
    rw [hgA]
    unfold lgood
    rw [List.mem_filter, List.mem_range, e1, e2, decide_eq_true_eq]
    exact ⟨fun z => ⟨hlt, z⟩, fun z => z.2⟩
  have h0o : 0 ∈ o := by rw [ho]; exact scan_has0 i
  have hnum0 : num o g 0 = 0 := by
    have e1 : o[0]? = some 0 := by rw [ho]; exact scan0 rs i
    have e2 : o = [0] ++ o.drop 1 := by
      have := split_at' e1
      rw [List.take_zero, List.nil_append] at this
      exact this
    unfold num
    obtain ⟨l, hl⟩ : ∃ l, dd (o.map g) = [g 0] ++ l := by
      rw [e2, List.map_append, dd_app]
      exact addsN_pre _ _
    rw [hl]
    unfold pl
    rw [List.idxOf_append, if_pos (List.mem_singleton.mpr rfl)]
    simp
  have hlang : ∀ r ∈ o, LangEq m rs gd r A gA (num o g r) := fun r hr =>
    rel_lang (fun x y => x ∈ o ∧ y = num o g x) (fun x y ⟨hx, e⟩ => by rw [e]; exact hgood x hx) (fun x y a ⟨hx, e⟩ ha => ⟨c.stp w hx ha, by rw [e]; exact hstp x hx a ha⟩) ⟨hr, rfl⟩
  refine ⟨hwA, hgok, ?_, ?_, ?_⟩
  · have := hlang 0 h0o
    rw [hnum0] at this
    exact this
  · -- order
    have hmap := scan_map (A := rs) (B := A) (f := num o g) hnum0 (fun k r hr => hrow r (by
      rw [ho]
      by_cases hk : k ≤ i
      · exact scan_sub hk hr
      · rw [scan_full (rs := rs) (k := i) (by omega) (by omega)] at hr
        exact hr)) i
    rw [← ho, List.take_of_length_le (by omega)] at hmap
    have e1 : dd (o.map (num o g)) = List.range (headsOf o g).length := by
      have e2 : o.map (num o g) = (o.map g).map (pl (dd (o.map g))) := by
        rw [List.map_map]
        rfl
      rw [e2, dd_map_on (o.map g) fun x hx y hy h => pl_inj (mem_dd.mpr hx) (mem_dd.mpr hy) h, pl_map_range (nd_dd _), heads_len]
    rw [e1, List.length_range, ← hAl] at hmap
    exact hmap.symm
  · intro p q hp hq hpq
    obtain ⟨hp1, ep⟩ : ∃ h, (headsOf o g)[p]? = some h := ⟨_, List.getElem?_eq_getElem (by rw [← hAl]; exact hp)⟩
    obtain ⟨hq1, eq⟩ : ∃ h, (headsOf o g)[q]? = some h := ⟨_, List.getElem?_eq_getElem (by rw [← hAl]; exact hq)⟩
    have hpo := heads_mem (List.mem_of_getElem? ep)
    have hqo := heads_mem (List.mem_of_getElem? eq)
    have np := num_heads ep
    have nq := num_heads eq
    have l1 := hlang hp1 hpo
    have l2 := hlang hq1 hqo
    rw [np] at l1
    rw [nq] at l2
    have l3 : LangEq m rs gd hp1 rs gd hq1 := l1.trans (hpq.trans l2.symm)
    have e : g hp1 = g hq1 := by
      rw [hg]
      exact sig_clsA (lang_clsA w c rfl (j + 1) hpo hqo l3)
    rw [← np, ← nq]
    exact num_congr e
end
theorem scan_word {m : Nat} {rs : Rws} (w : WFB m rs) : ∀ (k : Nat), ∀ r ∈ scanAt rs k, ∃ l : List Nat, (∀ a ∈ l, a < m) ∧ run rs 0 l = r
  | 0, r, h => ⟨[], by simp, (List.mem_singleton.mp h).symm⟩
  | k + 1, r, h => by
    have h' : r ∈ addsN (scanAt rs k) (row rs ((scanAt rs k).getD k 0)) := h
    rcases mem_addsN.mp h' with z | z
    · exact scan_word w k r z
    · have hq : ∃ q, q ∈ scanAt rs k ∧ r ∈ row rs q := by
        rw [List.getD_eq_getElem?_getD] at z
        cases e : (scanAt rs k)[k]? with
        | none => rw [e] at z; exact ⟨0, scan_has0 k, z⟩
        | some q => rw [e] at z; exact ⟨q, List.mem_of_getElem? e, z⟩
      obtain ⟨q, hq1, hq2⟩ := hq
      obtain ⟨l, hl1, hl2⟩ := scan_word w k q hq1
      obtain ⟨a, ha⟩ := List.mem_iff_getElem?.mp hq2
      have ham : a < m := by
        have := (List.getElem?_eq_some_iff.mp ha).1
        rwa [w.row_len (w.scan_lt k q hq1)] at this
      refine ⟨l ++ [a], fun b hb => ?_, ?_⟩
      · rcases List.mem_append.mp hb with y | y
        · exact hl1 b y
        · rw [List.mem_singleton.mp y]; exact ham
      · rw [run_snoc, hl2]
        unfold stp
        rw [List.getD_eq_getElem?_getD, ha]
        rfl
theorem LangEq.word {m : Nat} {A : Rws} {gA : List Nat} {p : Nat} {B : Rws} {gB : List Nat} {q : Nat} (h : LangEq m A gA p B gB q) : ∀ {l : List Nat}, (∀ a ∈ l, a < m) → LangEq m A gA (run A p l) B gB (run B q l) := fun {l} hl w hw => by
  rw [← run_app, ← run_app]
  exact h (l ++ w) fun a ha => (List.mem_append.mp ha).elim (hl a) (hw a)
section
variable {m : Nat} {A B : Rws} {gA gB : List Nat}
theorem canon_ex (wA : WFB m A) (wB : WFB m B) (cA : Canon m A gA) (h : LangEq m A gA 0 B gB 0) {p : Nat} (hp : p < A.length) : ∃ q, q < B.length ∧ LangEq m A gA p B gB q := by
  have hm : p ∈ scanAt A A.length := by rw [cA.ord]; exact List.mem_range.mpr hp
  obtain ⟨l, hl1, hl2⟩ := scan_word wA A.length p hm
  refine ⟨run B 0 l, wB.run_lt wB.pos hl1, ?_⟩
  have := h.word hl1
  rwa [hl2] at this
noncomputable def cf (m : Nat) (A : Rws) (gA : List Nat) (B : Rws) (gB : List Nat) (p : Nat) : Nat := open Classical in if h : ∃ q, q < B.length ∧ LangEq m A gA p B gB q then h.choose else 0
theorem cf_ok (wA : WFB m A) (wB : WFB m B) (cA : Canon m A gA) (h : LangEq m A gA 0 B gB 0) {p : Nat} (hp : p < A.length) : cf m A gA B gB p < B.length ∧ LangEq m A gA p B gB (cf m A gA B gB p) := by
  have e := canon_ex wA wB cA h hp
  unfold cf
  rw [dif_pos e]
  exact e.choose_spec
theorem canon_le (wA : WFB m A) (wB : WFB m B) (cA : Canon m A gA) (h : LangEq m A gA 0 B gB 0) : A.length ≤ B.length := by
  have z : ((List.range A.length).map (cf m A gA B gB)).Nodup := by
    have inj : ∀ x ∈ List.range A.length, ∀ y ∈ List.range A.length, cf m A gA B gB x = cf m A gA B gB y → x = y := fun x hx y hy e => by
      rw [List.mem_range] at hx hy
      have h1 := (cf_ok wA wB cA h hx).2
      have h2 := (cf_ok wA wB cA h hy).2
      rw [← e] at h2
      exact cA.sep x y hx hy (h1.trans h2.symm)
    have e := dd_map_on (f := cf m A gA B gB) (List.range A.length) inj
    rw [dd_of_nodup ((range_inc _).imp fun z => Nat.ne_of_lt z)] at e
    rw [← e]
    exact nd_dd _
  have := nodup_le z fun x hx => by
    obtain ⟨p, hp, rfl⟩ := List.mem_map.mp hx
    exact (cf_ok wA wB cA h (List.mem_range.mp hp)).1
  rwa [List.length_map, List.length_range] at this
theorem sorted_ext : ∀ {a b : List Nat}, a.Pairwise (· < ·) → b.Pairwise (· < ·) → (∀ x, x ∈ a ↔ x ∈ b) → a = b
  | [], [], _, _, _ => rfl
  | [], y :: b, _, _, h => by
    have := (h y).mpr (List.mem_cons_self ..)
    cases this
  | x :: a, [], _, _, h => by
    have := (h x).mp (List.mem_cons_self ..)
    cases this
  | x :: a, y :: b, ha, hb, h => by
    rw [List.pairwise_cons] at ha hb
    have e : x = y := by
      rcases List.mem_cons.mp ((h x).mp (List.mem_cons_self ..)) with z | z
      · exact z
      · rcases List.mem_cons.mp ((h y).mpr (List.mem_cons_self ..)) with u | u
        · exact u.symm
        · have h1 := hb.1 x z
          have h2 := ha.1 y u
          omega
    subst e
    rw [sorted_ext ha.2 hb.2 fun u => ?_]
    constructor
    · intro hu
      rcases List.mem_cons.mp ((h u).mp (List.mem_cons_of_mem _ hu)) with z | z
      · have := ha.1 u hu; omega
      · exact z
    · intro hu
      rcases List.mem_cons.mp ((h u).mpr (List.mem_cons_of_mem _ hu)) with z | z
      · have := hb.1 u hu; omega
      · exact z
theorem canon_uniq (wA : WFB m A) (wB : WFB m B) (oA : GOK A.length gA) (oB : GOK B.length gB) (cA : Canon m A gA) (cB : Canon m B gB) (h : LangEq m A gA 0 B gB 0) : A = B ∧ gA = gB := by
  have hlen : A.length = B.length := Nat.le_antisymm (canon_le wA wB cA h) (canon_le wB wA cB h.symm)
  have ok : ∀ {p}, p < A.length → cf m A gA B gB p < B.length ∧ LangEq m A gA p B gB (cf m A gA B gB p) := fun hp => cf_ok wA wB cA h hp
  have hun : ∀ {p q}, p < A.length → q < B.length → LangEq m A gA p B gB q → cf m A gA B gB p = q := fun hp hq e => cB.sep _ _ (ok hp).1 hq ((ok hp).2.symm.trans e)
  have h0 : cf m A gA B gB 0 = 0 := hun wA.pos wB.pos h
  have hst : ∀ {p a}, p < A.length → a < m → cf m A gA B gB (stp A p a) = stp B (cf m A gA B gB p) a := fun hp ha => hun (wA.stp_lt hp ha) (wB.stp_lt (ok hp).1 ha) ((ok hp).2.step ha)
  have hrow : ∀ {p}, p < A.length → row B (cf m A gA B gB p) = (row A p).map (cf m A gA B gB) := fun {p} hp => by
    refine List.ext_getElem (by rw [List.length_map, wB.row_len (ok hp).1, wA.row_len hp]) fun a ha1 ha2 => ?_
    have ham : a < m := by rwa [wB.row_len (ok hp).1] at ha1
    rw [List.getElem_map]
    have e1 : (row B (cf m A gA B gB p))[a] = stp B (cf m A gA B gB p) a := (List.getElem?_eq_some_iff.mp (wB.stp_at (ok hp).1 ham)).2
    have e2 : (row A p)[a]'(by rw [wA.row_len hp]; exact ham) = stp A p a := (List.getElem?_eq_some_iff.mp (wA.stp_at hp ham)).2
    rw [e1, e2, hst hp ham]
  have hmap := scan_map (A := A) (B := B) (f := cf m A gA B gB) h0 (fun k r hr => hrow (wA.scan_lt k r hr)) A.length
  rw [cA.ord, List.take_of_length_le (by rw [List.length_range]; exact Nat.le_refl _)] at hmap
  have inj : ∀ x ∈ List.range A.length, ∀ y ∈ List.range A.length, cf m A gA B gB x = cf m A gA B gB y → x = y := fun x hx y hy e => by
    rw [List.mem_range] at hx hy
    have h2 := (ok hy).2
    rw [← e] at h2
    exact cA.sep x y hx hy ((ok hx).2.trans h2.symm)
  rw [dd_map_on _ inj, dd_of_nodup ((range_inc _).imp fun z => Nat.ne_of_lt z), List.length_map, List.length_range, hlen, cB.ord] at hmap
  have hid : ∀ {p}, p < A.length → cf m A gA B gB p = p := fun {p} hp => by
    have h1 : ((List.range B.length).map (cf m A gA B gB))[p]? = (List.range B.length)[p]? := by rw [hmap]
    rw [List.getElem?_map, List.getElem?_range (by omega)] at h1
    exact Option.some.inj h1
  refine ⟨List.ext_getElem hlen fun p hp hq => ?_, sorted_ext oA.inc oB.inc fun x => ?_⟩
  · have e1 : A[p] = row A p := by
      have := row_at hp
      rw [List.getElem?_eq_getElem hp] at this
      exact Option.some.inj this
    have e2 : B[p] = row B p := by
      have := row_at hq
      rw [List.getElem?_eq_getElem hq] at this
      exact Option.some.inj this
    have e3 := hrow hp
    rw [hid hp] at e3
    rw [e1, e2, e3]
    refine (List.map_id _).symm.trans (List.map_congr_left fun t ht => ?_)
    exact (hid (wA.row_lt hp ht)).symm
  · constructor
    · intro hx
      have := (ok (oA.lt x hx)).2.here.mp hx
      rwa [hid (oA.lt x hx)] at this
    · intro hx
      have hxa : x < A.length := by rw [hlen]; exact oB.lt x hx
      refine (ok hxa).2.here.mpr ?_
      rw [hid hxa]
      exact hx
end
end U
namespace U
open PySem L2
theorem paired3 {α β : Type} {F : α → β → Prop} {xs : List α} {a b c : β} (h : Paired F xs [a, b, c]) : ∃ x y z, xs = [x, y, z] ∧ F x a ∧ F y b ∧ F z c := by
  cases h with
  | cons h1 t => cases t with
    | cons h2 t => cases t with
      | cons h3 t => cases t with
        | nil => exact ⟨_, _, _, rfl, h1, h2, h3⟩
end U
namespace U
open PySem PySem.Spec PyProof.Rows L2
section
variable {α : Type} [DecidableEq α]
/-- the places met, k of them gone through -/
def gAt (nx : α → List α) (s : α) : Nat → List α
  | 0 => [s]
  | k + 1 => addsN (gAt nx s k) (nx ((gAt nx s k).getD k s))
variable {nx : α → List α} {s : α}
theorem g_nd : ∀ k, (gAt nx s k).Nodup
  | 0 => by simp [gAt]
  | k + 1 => nd_addsN (g_nd k)
theorem g_pre (k : Nat) : ∃ m, gAt nx s (k + 1) = gAt nx s k ++ m := addsN_pre _ _
theorem g_mono (k : Nat) : ∀ j, ∃ m, gAt nx s (k + j) = gAt nx s k ++ m
  | 0 => ⟨[], by simp⟩
  | j + 1 => by
    obtain ⟨m1, e1⟩ := g_mono k j
    obtain ⟨m2, e2⟩ := g_pre (nx := nx) (s := s) (k + j)
    exact ⟨m1 ++ m2, by rw [show k + (j + 1) = k + j + 1 from rfl, e2, e1, List.append_assoc]⟩
theorem g_at {k l q : Nat} {x : α} (h : (gAt nx s k)[q]? = some x) (hl : k ≤ l) : (gAt nx s l)[q]? = some x := by
  obtain ⟨j, rfl⟩ : ∃ j, l = k + j := ⟨l - k, by omega⟩
  obtain ⟨m, e⟩ := g_mono (nx := nx) (s := s) k j
  rw [e, List.getElem?_append_left (List.getElem?_eq_some_iff.mp h).1]
  exact h
theorem g_sub {k l : Nat} (hl : k ≤ l) {x : α} (h : x ∈ gAt nx s k) : x ∈ gAt nx s l := by
  obtain ⟨q, hq⟩ := List.mem_iff_getElem?.mp h
  exact List.mem_of_getElem? (g_at hq hl)
theorem g_s (k : Nat) : (gAt nx s k)[0]? = some s := g_at (k := 0) rfl (Nat.zero_le _)
theorem g_has (k : Nat) : s ∈ gAt nx s k := List.mem_of_getElem? (g_s k)
theorem g_pos (k : Nat) : 0 < (gAt nx s k).length := (List.getElem?_eq_some_iff.mp (g_s k)).1
theorem g_inv {P : α → Prop} (h0 : P s) (hn : ∀ x, P x → ∀ y ∈ nx x, P y) : ∀ k, ∀ x ∈ gAt nx s k, P x
  | 0, x, h => by
    rw [List.mem_singleton.mp h]
    exact h0
  | k + 1, x, h => by
    rcases mem_addsN.mp h with h | h
    · exact g_inv h0 hn k x h
    · refine hn _ ?_ x h
      rw [List.getD_eq_getElem?_getD]
      cases e : (gAt nx s k)[k]? with
      | none => exact h0
      | some y => exact g_inv h0 hn k y (List.mem_of_getElem? e)
/-- a place that was gone through: its neighbours are there -/
theorem g_row {k q : Nat} {x : α} (hq : q < k) (h : (gAt nx s k)[q]? = some x) (hl : (gAt nx s q).length > q) {y : α} (hy : y ∈ nx x) : y ∈ gAt nx s k := by
  obtain ⟨z, hz⟩ : ∃ z, (gAt nx s q)[q]? = some z := ⟨_, List.getElem?_eq_getElem hl⟩
  have e := g_at hz (Nat.le_of_lt hq)
  rw [h] at e
  cases e
  refine g_sub (show q + 1 ≤ k from hq) ?_
  refine mem_addsN.mpr (.inr ?_)
  rw [List.getD_eq_getElem?_getD, hz]
  exact hy
/-- all of it was gone through, one place at a time -/
structure Done (nx : α → List α) (s : α) (k : Nat) : Prop where
  len : (gAt nx s k).length = k
  ok : ∀ q, q < k → q < (gAt nx s q).length
theorem Done.cl {k : Nat} (d : Done nx s k) {x y : α} (h : x ∈ gAt nx s k) (hy : y ∈ nx x) : y ∈ gAt nx s k := by
  obtain ⟨q, hq⟩ := List.mem_iff_getElem?.mp h
  have hlt := (List.getElem?_eq_some_iff.mp hq).1
  rw [d.len] at hlt
  exact g_row hlt hq (d.ok q hlt) hy
end
section
variable {α : Type} [DecidableEq α] {nx : α → List α} {s : α} {m : Nat}
def gRows (nx : α → List α) (o : List α) : Rws := o.map fun x => (nx x).map (pl o)
theorem gRows_len (nx : α → List α) (o : List α) : (gRows nx o).length = o.length := List.length_map ..
theorem gRows_wf {k : Nat} (d : Done nx s k) (hk : k ≤ 4000) (hm : m ≤ 3) (hw : ∀ x ∈ gAt nx s k, (nx x).length = m) : WFB m (gRows nx (gAt nx s k)) where
  pos := by rw [gRows_len]; exact g_pos k
  le := by rw [gRows_len, d.len]; exact hk
  m3 := hm
  wid := fun r hr => by
    obtain ⟨x, hx, rfl⟩ := List.mem_map.mp hr
    rw [List.length_map, hw x hx]
  lt := fun r hr t ht => by
    obtain ⟨x, hx, rfl⟩ := List.mem_map.mp hr
    obtain ⟨y, hy, rfl⟩ := List.mem_map.mp ht
    rw [gRows_len]
    exact pl_lt (d.cl hx hy)
theorem gRow_at {o : List α} {q : Nat} {x : α} (h : o[q]? = some x) : row (gRows nx o) q = (nx x).map (pl o) := by
  unfold row gRows
  rw [List.getD_eq_getElem?_getD, List.getElem?_map, h]
  rfl
theorem gStp {o : List α} {q a : Nat} {x y : α} (h : o[q]? = some x) (ha : (nx x)[a]? = some y) : stp (gRows nx o) q a = pl o y := by
  unfold stp
  rw [gRow_at h, List.getD_eq_getElem?_getD, List.getElem?_map, ha]
  rfl
/-- a step of the places -/
def gRun (st : α → Nat → α) (x : α) (w : List Nat) : α := w.foldl st x
theorem gRun_eq {k : Nat} (d : Done nx s k) {st : α → Nat → α} (hst : ∀ x ∈ gAt nx s k, ∀ a, a < m → (nx x)[a]? = some (st x a)) : ∀ (w : List Nat) (x : α), x ∈ gAt nx s k → (∀ a ∈ w, a < m) → gRun st x w ∈ gAt nx s k ∧ run (gRows nx (gAt nx s k)) (pl (gAt nx s k) x) w = pl (gAt nx s k) (gRun st x w)
  | [], x, hx, _ => ⟨hx, rfl⟩
  | a :: w, x, hx, hw => by
    have ha := hst x hx a (hw a (List.mem_cons_self ..))
    have hy := d.cl hx (List.mem_of_getElem? ha)
    have h := gRun_eq d hst w (st x a) hy fun b hb => hw b (List.mem_cons_of_mem _ hb)
    refine ⟨h.1, ?_⟩
    show run _ (stp _ _ a) w = _
    rw [gStp (pl_at hx) ha]
    exact h.2
/-- the rooms that are marked -/
def gGood (f : α → Bool) (s : α) (o : List α) : List Nat := (List.range o.length).filter fun r => f (o.getD r s)
theorem pl_getD {o : List α} {x : α} (h : x ∈ o) : o.getD (pl o x) s = x := by
  rw [List.getD_eq_getElem?_getD, pl_at h]
  rfl
theorem mem_gGood {f : α → Bool} {o : List α} {x : α} (h : x ∈ o) : pl o x ∈ gGood f s o ↔ f x = true := by
  unfold gGood
  rw [List.mem_filter, List.mem_range, pl_getD h]
  exact ⟨fun z => z.2, fun z => ⟨pl_lt h, z⟩⟩
theorem pl_s (k : Nat) : pl (gAt nx s k) s = 0 := by
  have h := g_s (nx := nx) (s := s) k
  have h2 := pl_at (g_has (nx := nx) (s := s) k)
  obtain ⟨a1, a2⟩ := List.getElem?_eq_some_iff.mp h
  obtain ⟨b1, b2⟩ := List.getElem?_eq_some_iff.mp h2
  have pw := List.pairwise_iff_getElem.mp (g_nd (nx := nx) (s := s) k)
  rcases Nat.eq_zero_or_pos (pl (gAt nx s k) s) with z | z
  · exact z
  · exact (pw 0 _ a1 b1 z (a2.trans b2.symm)).elim
/-- what the machine tells -/
theorem gLang {k : Nat} (d : Done nx s k) {st : α → Nat → α} (hst : ∀ x ∈ gAt nx s k, ∀ a, a < m → (nx x)[a]? = some (st x a)) (f : α → Bool) {w : List Nat} (hw : ∀ a ∈ w, a < m) :
    run (gRows nx (gAt nx s k)) 0 w ∈ gGood f s (gAt nx s k) ↔ f (gRun st s w) = true := by
  have h := gRun_eq d hst w s (g_has k) hw
  rw [pl_s] at h
  rw [h.2]
  exact mem_gGood h.1
theorem gGood_ok (f : α → Bool) (s : α) (o : List α) : GOK o.length (gGood f s o) := GOK.filter _
end
section
variable {A B : Rws} {m : Nat}
def jn (m : Nat) (A B : Rws) (pr : Nat × Nat) : List (Nat × Nat) := (List.range m).map fun a => (stp A pr.1 a, stp B pr.2 a)
def jst (A B : Rws) (pr : Nat × Nat) (a : Nat) : Nat × Nat := (stp A pr.1 a, stp B pr.2 a)
theorem jn_at {pr : Nat × Nat} {a : Nat} (ha : a < m) : (jn m A B pr)[a]? = some (jst A B pr a) := by
  unfold jn
  rw [List.getElem?_map, List.getElem?_range ha]
  rfl
theorem jn_len (pr : Nat × Nat) : (jn m A B pr).length = m := by
  unfold jn
  rw [List.length_map, List.length_range]
theorem jrun : ∀ (w : List Nat) (pr : Nat × Nat), gRun (jst A B) pr w = (run A pr.1 w, run B pr.2 w)
  | [], _ => rfl
  | a :: w, pr => jrun w (jst A B pr a)
abbrev jAt (m : Nat) (A B : Rws) : Nat → List (Nat × Nat) := gAt (jn m A B) (0, 0)
theorem j_lt (wA : WFB m A) (wB : WFB m B) (k : Nat) : ∀ pr ∈ jAt m A B k, pr.1 < A.length ∧ pr.2 < B.length := g_inv ⟨wA.pos, wB.pos⟩ (fun pr h y hy => by
  obtain ⟨a, ha, rfl⟩ := List.mem_map.mp hy
  have ha := List.mem_range.mp ha
  exact ⟨wA.stp_lt h.1 ha, wB.stp_lt h.2 ha⟩) k
end
end U
namespace U
open PySem PySem.Spec PyProof.Rows L2
theorem pl_app {α : Type} [DecidableEq α] {l m : List α} {x : α} (h : x ∈ l) : pl (l ++ m) x = pl l x := by
  unfold pl
  rw [List.idxOf_append, if_pos h]
theorem pl_g {α : Type} [DecidableEq α] {nx : α → List α} {s : α} {k l : Nat} (hl : k ≤ l) {x : α} (h : x ∈ gAt nx s k) : pl (gAt nx s l) x = pl (gAt nx s k) x := by
  obtain ⟨j, rfl⟩ : ∃ j, l = k + j := ⟨l - k, by omega⟩
  obtain ⟨m, e⟩ := g_mono (nx := nx) (s := s) k j
  rw [e, pl_app h]
theorem numN_put {l : List NestedKey} {n : NestedKey} (h : n ∉ l) : putN (mapN l (numD l)) n (vn l.length) = mapN (l ++ [n]) (numD (l ++ [n])) := by
  rw [show mapN l (numD l) = mapN l (numD (l ++ [n])) from mapN_congr fun x hx => by unfold numD; rw [pl_snoc_in hx]]
  exact putN_mapN h (by unfold numD; rw [pl_snoc_new h])
theorem pl_map {α β : Type} [DecidableEq α] [DecidableEq β] {f : α → β} (hf : ∀ x y, f x = f y → x = y) (l : List α) (x : α) : pl (l.map f) (f x) = pl l x := by
  unfold pl
  induction l with
  | nil => rfl
  | cons a l ih =>
    rw [List.map_cons, List.idxOf_cons, List.idxOf_cons, ih]
    by_cases e : a = x
    · subst e
      rw [beq_self_eq_true, beq_self_eq_true]
    · have h1 : (f a == f x) = false := beq_false_of_ne fun z => e (hf _ _ z)
      have h2 : (a == x) = false := beq_false_of_ne e
      rw [h1, h2]
end U
namespace U
open PySem PySem.Spec PyProof.Rows L2
theorem gMarks {α : Type} (f : α → Bool) (s : α) (o : List α) : (List.range o.length).map (fun r => V.bl (decide (r ∈ gGood f s o))) = o.map fun x => V.bl (f x) := by
  refine List.ext_getElem (by simp) fun i h1 h2 => ?_
  rw [List.getElem_map, List.getElem_map, List.getElem_range]
  have hi : i < o.length := by simpa using h2
  have e : o.getD i s = o[i] := by
    rw [List.getD_eq_getElem?_getD, List.getElem?_eq_getElem hi]
    rfl
  congr 1
  unfold gGood
  cases hf : f o[i] with
  | true => exact decide_eq_true (List.mem_filter.mpr ⟨List.mem_range.mpr hi, by rw [e, hf]⟩)
  | false =>
    refine decide_eq_false fun z => ?_
    have := (List.mem_filter.mp z).2
    rw [e, hf] at this
    cases this
end U
namespace U
open PySem PySem.Spec PyProof.Rows L2
theorem g_le {α : Type} [DecidableEq α] {nx : α → List α} {s : α} {i : Nat} (hok : ∀ q, q < i → q < (gAt nx s q).length) : i ≤ (gAt nx s i).length := by
  cases i with
  | zero => exact Nat.zero_le _
  | succ j =>
    have h1 := hok j (Nat.lt_succ_self j)
    obtain ⟨mm, e⟩ := g_pre (nx := nx) (s := s) j
    rw [e, List.length_append]
    omega
/-- the rows so far stand when more places are met -/
theorem g_rows {α : Type} [DecidableEq α] {nx : α → List α} {s : α} {i : Nat} (hok : ∀ q, q < i → q < (gAt nx s q).length) : ((gAt nx s i).take i).map (fun x => (nx x).map (pl (gAt nx s (i + 1)))) = ((gAt nx s i).take i).map fun x => (nx x).map (pl (gAt nx s i)) := by
  refine List.map_congr_left fun x hx => List.map_congr_left fun y hy => pl_g (Nat.le_succ i) ?_
  obtain ⟨q, hq⟩ := List.mem_iff_getElem?.mp hx
  have hql := (List.getElem?_eq_some_iff.mp hq).1
  rw [List.length_take] at hql
  rw [List.getElem?_take_of_lt (by omega)] at hq
  exact g_row (by omega) hq (hok q (by omega)) hy
theorem Paired.mapM {α β : Type} {F G : α → β → Prop} : ∀ {xs : List α} {ys : List β}, Paired F xs ys → (∀ x y, x ∈ xs → F x y → G x y) → Paired G xs ys
  | _, _, .nil, _ => .nil
  | _, _, .cons r t, h => .cons (h _ _ (List.mem_cons_self ..) r) (Paired.mapM t fun x y hx => h x y (List.mem_cons_of_mem _ hx))
end U
namespace U
open PySem PySem.Spec PyProof.Rows L2
section
variable {m : Nat} {rs A : Rws} {gd gA : List Nat}
theorem least_len (w : WFB m rs) (h : LeastOf rs gd A gA) : A.length ≤ rs.length := by
  obtain ⟨j, i, o, g, ho, hi, hs, hg, hA, hgA⟩ := h.ex
  rw [hA, lrows_len]
  refine Nat.le_trans (heads_le o g) ?_
  rw [ho]
  exact w.scan_len i
theorem least_cls (w : WFB m rs) (h : LeastOf rs gd A gA) {k : Nat} (hk : cnt (List.range rs.length) (sigB rs gd (k + 1)) = cnt (List.range rs.length) (clsB rs gd k)) : A.length ≤ cnt (List.range rs.length) (sigB rs gd (k + 1)) := by
  obtain ⟨wA, oA, hL, cA⟩ := h.main w
  have hf : ∀ p, p < A.length → cf m A gA rs gd p < rs.length ∧ LangEq m A gA p rs gd (cf m A gA rs gd p) := fun p hp => cf_ok wA w cA hL.symm hp
  have hn : ((List.range A.length).map fun p => clsB rs gd k (cf m A gA rs gd p)).Nodup := by
    rw [List.nodup_iff_pairwise_ne, List.pairwise_map]
    refine List.Pairwise.imp_of_mem ?_ (range_inc A.length)
    intro p q hp hq hlt e
    have hp := List.mem_range.mp hp
    have hq := List.mem_range.mp hq
    obtain ⟨p1, p2⟩ := hf p hp
    obtain ⟨q1, q2⟩ := hf q hq
    have e2 : LangEq m rs gd (cf m A gA rs gd p) rs gd (cf m A gA rs gd q) := fun l hl => clsB_lang w hk l _ _ p1 q1 hl e
    have := cA.sep p q hp hq (p2.trans (e2.trans q2.symm))
    omega
  have h2 := nodup_sub hn fun x hx => (show x ∈ dd ((List.range rs.length).map (clsB rs gd k)) from by
    obtain ⟨p, hp, rfl⟩ := List.mem_map.mp hx
    exact mem_dd.mpr (List.mem_map.mpr ⟨_, List.mem_range.mpr (hf p (List.mem_range.mp hp)).1, rfl⟩))
  rw [List.length_map, List.length_range] at h2
  rw [hk]
  exact h2
end
section
variable {m : Nat} {A B : Rws}
theorem jLang {k : Nat} (d : Done (jn m A B) (0, 0) k) (f : Nat × Nat → Bool) {w : List Nat} (hw : ∀ a ∈ w, a < m) : run (gRows (jn m A B) (jAt m A B k)) 0 w ∈ gGood f (0, 0) (jAt m A B k) ↔ f (run A 0 w, run B 0 w) = true := by
  rw [gLang d (st := jst A B) (fun x _ a ha => jn_at ha) f hw, jrun]
end
end U
set_option maxHeartbeats 2000000
namespace X7
open PySem PySem.Spec PyProof.Rows L2
section
variable {X : Cx}
/-- repr(text) -/
theorem call_repr_str : CallR X (.builtin "repr") (fun xs H Q => ∃ a : Str, xs = [.str a] ∧ (reprText a).length ≤ sizeLine ∧ Q (.str (reprText a)) H) := by
  intro pins s σ H xs us Q I r h
  obtain ⟨a, rfl, hz, q⟩ := h
  obtain ⟨u, rfl, t, rfl⟩ := vals1 r
  exact PySem.P.repr_of_str ⟨.str _, H, I.tok _, ⟨_, rfl⟩, q⟩ hz
/-- isinstance(e, c), e the exception that the suite holds, with or without a dict -/
def rIsD (K : PySem.W.Frag) (D a : Addr) : List V → Hp → VK → Prop := fun xs H Q => ∃ (c : V) (cv : Value) (b : Bool), xs = [.ref a, c] ∧ (∀ u, RelV c u → u = cv) ∧ PySem.W.kitOne K (.ref D) cv = some b ∧ Q (.bl b) H
theorem call_isD {a D : Addr} {d : Option Addr} {oe : Obj} {pn : List (Addr × Obj)} (C : ExcC X.K D) (hz : Zc (.ref D) d oe) (hf : ∃ vs, oe.data = .fields vs) (hd : ∀ (H : Hp) (h : Heap) (x : Addr), HOk X.prog X.w H h → d = some x → H x ≠ none → ∃ o, h.get? x = some o) :
    CallR (X.suite a ((a, oe) :: pn)) (.builtin "isinstance") (fun xs H Q => (∀ x, d = some x → H x ≠ none) ∧ rIsD X.K D a xs H Q) := by
  intro pins s σ H xs us Q I r h
  obtain ⟨hx, c, cv, b, rfl, hcv, e, q⟩ := h
  cases r with
  | cons rx rr =>
    cases rr with
    | cons rt rr =>
      cases rr
      cases rx
      have ec := hcv _ rt
      subst ec
      obtain ⟨hget, _⟩ := I.pin (a, oe) (List.mem_append.mpr (.inl List.mem_cons_self))
      obtain ⟨vs, hv⟩ := hf
      have J : ∃ od, PySem.W.InstAt s.heap a oe D od := by
        obtain ⟨oc, od, oda, osl⟩ := oe
        obtain ⟨h1, h2⟩ := hz
        dsimp only at h1 h2 hv
        subst h1 h2 hv
        cases od with
        | none => exact ⟨none, hget, rfl, rfl, trivial⟩
        | some x =>
          obtain ⟨o, ho⟩ := hd H s.heap x I.hok rfl (hx x rfl)
          exact ⟨some o, hget, rfl, rfl, ho⟩
      obtain ⟨od, J⟩ := J
      exact PySem.W.kia_one (PySem.W.kitx_exc (by obtain ⟨cd, hc, _⟩ := PySem.W.any_some C.hd; rw [hc]; rfl) C.hg C.hk C.hs C.ha C.hn C.ht C.hm) I.kIn J e (fun z => nomatch z) fun tk => ⟨.bl b, H, I.kept (t' := tk) fun _ _ z => z, rfl, q⟩
end
end X7
set_option maxHeartbeats 4000000
namespace X7
open PySem PySem.Spec PyProof.Rows L2
open NdefX (NF NScope CellsAt ncx startF envF)
section
variable {prog : Program} {w : World} {A : Around} {E : Value → Shared → Prop} {h : Heap} {g : Array GenState} {d : Drawn} {t : Nat} {os : OsState}
theorem call_mw {nm q : Str} {C N u e t0 : Addr} {bs bm : List Value} {hdct : Bool} {sn : List Str} {sub : List Value} {ab : Bool} {col : Option Bool} {dd : Option Addr} {k0 k1 k2 k3 k5 : Option Value} {us : List Value} {Q : Value → Shared → Prop}
    (hC : h.get? C = some (excClassObj nm q C N bs bm hdct sn sub ab col dd k0 k1 k2 k3 k5 "ValueError.__new__")) (he : h.get? e = some (PySem.HandSPX.excO C t0)) (hu : h.get? u = some (PySem.W.kxs_mw "ValueError.__init__" e)) (hz : us.length ≤ sizeLine)
    (hq : ∀ h' t1, (∀ b o, b ≠ e → h.get? b = some o → h'.get? b = some o) → h'.get? e = some (PySem.HandSPX.excO C t1) → Q .none ⟨h', g, d, t, os⟩) :
    wpAny (model prog w) A (call (.ref u) us) Q E ⟨h, g, d, t, os⟩ := by
  refine wpAny_call (codeAny_of_tree (show wpAny _ A.in1 (callAny (.ref u) ⟨us, []⟩) _ _ _ from ?_))
  unfold callAny
  refine wpAny_bind (wpAny_load hu ?_)
  have t1 : (Value.type "method-wrapper" == Value.type "method" || Value.type "method-wrapper" == Value.type "builtin_function_or_method" || Value.type "method-wrapper" == Value.type "method-wrapper") = true := by decide
  simp only [PySem.W.kxs_mw, t1, if_true]
  refine PySem.W.KFB.if_so (by decide) (wpAny_bind (PySem.W.check_bound_init PySem.F.excBase_ValueError.toExcCallFacts hC he rfl ?_))
  refine wpAny_bind (wpAny_pure (wpAny_pure ⟨plainId_quiet PySem.F.excBase_ValueError.init.plain _, codeAny_builtin PySem.F.excBase_ValueError.initEntry ?_⟩))
  exact PySem.W.exc_init_tree (cls := .ref C) (t0 := t0) (dv := none) (c2 := .none) (c3 := .none) (b4 := .bool false) he hz fun h' k e' _ => hq h' _ k e'
end
/-- what the written part says of the error class at C; D: the class that holds the __init__; f: the field -/
structure IniC (K : PySem.W.Frag) (C D : Addr) (f : Str) : Prop where
  ox : OexC K C
  cD : ∃ cd, PySem.W.clsIn K D = some cd
  sub : PySem.W.mroIn K C (.ref D) = some true
  sup : PySem.W.ks_superIn K C D "__init__" = some (some (.builtin "ValueError.__init__"))
  sB : PySem.W.subIn K (.ref C) (.type "ValueError") = some true
  nf : PySem.W.findIn K (.ref C) f = some none
  op : PySem.W.nsIn K cStatics "thirdparty.any" = some none
def spIni (K : PySem.W.Frag) (D : Addr) (f : Str) (okv : V → Prop) : Sp := fun vs H Q _ => ∃ a C v, vs = [.ref a, v] ∧ okv v ∧ IniC K C D f ∧ H a = some (exo a C none) ∧ ∀ dx, H dx = none → dx ≠ a → Q .non (upd (upd H dx (exd dx [(f, v)])) a (exo a C (some dx)))
/-- the argument's expression: what it needs of the parameter's value -/
def ArgE (e : Expr) (p : Str) (okv : V → Prop) : Prop := (∀ env, starEach [e] env = (false, eval e env) :: starEach [] env) ∧ ∀ X : Cx, X.N[1]? = some p → Vis X.env.scope p → ∃ te, PE X e te ∧ ∀ (v : V) (σ : L2.St) (H : Hp) (Q : VK), okv v → σ[1]? = some (some v) → (∀ z, Q z H) → te σ H Q
section
variable {P : Program} {w : World} {K : PySem.W.Frag} {mg : Str → Option Value} {base : Heap} {fI D cc cda : Addr} {st : Stmt} {p f qual : Str} {e : Expr} {oc kV doc pm ct ccl cl : Value} {od an cdd cld : Option Addr} {osl ccs csl : Array (Option Value)} {vs : Array Value} {file : Str} {tf : Tok} {okv : V → Prop}
abbrev iniFd (st : Stmt) (qual : Str) (kV doc pm ct : Value) (an : Option Addr) (cda cc : Addr) : FuncData := PySem.W.ksFn "__init__" qual (C8.fnArgs st) (C8.fnBody st) (C8.fnScope st) .none kV doc pm an (.ref cda) ct cc
theorem ini_ok (lk : K.lookup fI = some ⟨oc, od, .func (iniFd st qual kV doc pm ct an cda cc), osl⟩) (hcd : PySem.W.codeIn K (.ref cda) qual = true) (lc : K.lookup cda = some ⟨ccl, cdd, .fields vs, ccs⟩) (hvs : vs[2]? = some (.str file tf))
    (hfile : ((P.main.file : Str) == file) = true) (htop : (P.main.scope.names.lookup ("super" : Str)).isSome = false) (lcc : K.lookup cc = some ⟨cl, cld, .cell (some (.ref D)), csl⟩) (hsup : mg "super" = none)
    (S : NScope ["self", p, "__class__"] ["self", p] ["__class__"] (C8.fnScope st)) (hks : (C8.fnScope st).names.lookup ("super" : Str) = some .globalImplicit)
    (hbd : ∃ p0 p1 p2 p3 p4 q1 q2 q3 q4 : Pos, (p2.endLine == p3.line) = true ∧ C8.fnBody st = [.Expr (.Call (.Attribute (.Call (.Name "super" p0) [] [] p1) "__init__" p2) [e] [] p3) p4, .Assign [.Attribute (.Name "self" q1) f q2] (.Name p q3) q4])
    (hpar : ∃ ar : Arg, ((C8.fnArgs st).posonlyargs ++ (C8.fnArgs st).args).head? = some ar ∧ ar.arg = "self") (hE : ArgE e p okv) (hpd : (p == ("__debug__" : Str)) = false) (hpc : (p == ("__classdict__" : Str)) = false) :
    FnOk P w K mg base C8.CX0 1 fI (iniFd st qual kV doc pm ct an cda cc) ["self", p] (spIni K D f okv) := by
  refine ⟨fun ws H Q E ⟨a, C, v, e1, _⟩ => by rw [e1] <;> rfl, fun A outer s H args us ws Q E hr e0 hb r hsp => ?_⟩
  obtain ⟨x, C, v, rfl, hokv, hc, hx, hq⟩ := hsp
  have KX : K.In s.heap := e0.mod.kin.keeps fun b o e => (e0.bs b o e).1
  have lim : s.heap.NoLimit := e0.mod.nolimit.keeps fun b o e => (e0.bs b o e).1
  have hl : us.length = 2 := by rw [← r.length]; rfl
  refine codeAny_call_function hr.depth (KX _ _ lk) rfl S.co S.gen rfl (PySem.W.codeRec_of KX hcd) (hb _ _ _ _ ?_)
  refine wpAny_newFunctionEnv S.nocell (fun ⟨n, _⟩ hy => S.par n (List.of_mem_zip hy).1) (fun h₁ hns hsb => ⟨lim.fresh _ hsb, ?_⟩) S.kind
  have kp : ∀ b o, s.heap.get? b = some o → h₁.get? b = some o := fun b o e => hsb.extBut b o (Nat.ne_of_lt (Heap.lt_size e)) (Heap.get?_push_of_some _ e)
  -- the frame as a context
  let F : NF := ⟨"__init__", qual, C8.fnArgs st, C8.fnBody st, C8.fnScope st, [("__class__", cc)], cda⟩
  have hcc : H cc = none := (e0.bs cc _ (e0.mod.kin _ _ lcc)).2
  have look1 : ∀ {y : Str} {c : Addr}, List.lookup y [(("__class__" : Str), cc)] = some c → y = "__class__" ∧ c = cc := fun {y c} h => by
    by_cases hy : y = "__class__"
    · rw [hy] at h
      simp [List.lookup] at h
      exact ⟨hy, h.symm⟩
    · have : (y == ("__class__" : Str)) = false := by simpa using hy
      simp [List.lookup, this] at h
  have CA : CellsAt F.cl ["__class__"] [none] s.heap H := ⟨rfl, fun y c h => by
      obtain ⟨_, rfl⟩ := look1 h
      exact ⟨hcc, some (.ref D), _, KX _ _ lcc, rfl⟩, fun y z c h1 h2 => (look1 h1).1.trans (look1 h2).1.symm, fun i y hy => by
      cases i with
      | zero =>
        simp at hy
        subst hy
        exact ⟨cc, by simp [F, List.lookup], fun v h => by simp at h⟩
      | succ i => simp at hy⟩
  have I : L2.Inv (ncx C8.CX0 P w K mg base (["self", p, "__class__"] : List Str) F fI A outer s H E) [] (startF (["self", p, "__class__"] : List Str) [.ref x, v] [none]) H { s with heap := h₁, toks := s.toks + ((["self", p] : List Str).zip us).length } :=
    NdefX.inv_startN (F := F) (f := fI) (fr := ["__class__"]) S hr.hd e0 rfl r CA hns kp
  cases r with
  | @cons _ u0 _ ur r0 rr =>
  cases rr with
  | @cons _ u1 _ ur2 r1 rr2 =>
  cases rr2
  obtain rfl : u0 = Value.ref x := r0
  obtain ⟨p0, p1, p2, p3, p4, q1, q2, q3, q4, hln, hbd⟩ := hbd
  obtain ⟨ar, har, har2⟩ := hpar
  obtain ⟨hst, hE⟩ := hE
  
  have hndp : (["self", p] : List Str).Nodup := (List.nodup_append.mp (show ((["self", p] : List Str) ++ (["__class__"] : List Str)).Nodup from S.nd)).1
  generalize hX : ncx C8.CX0 P w K mg base (["self", p, "__class__"] : List Str) F fI A outer s H E = X at I
  have eenv : X.env = envF F fI s.heap.objs.size := by rw [← hX]; rfl
  have eN : X.N = (["self", p, "__class__"] : List Str) := by rw [← hX]; rfl
  have eK : X.K = K := by rw [← hX]; rfl
  have eP : X.prog = P := by rw [← hX]; rfl
  have ew : X.w = w := by rw [← hX]; rfl
  have eA : X.A = A.deeper (envF F fI s.heap.objs.size) := by rw [← hX]; rfl
  have emg : X.mg = mg := by rw [← hX]; rfl
  have hvis : Vis X.env.scope p := by rw [eenv]; exact .inl (S.par p (by simp))
  obtain ⟨te, hte, hteq⟩ := hE X (by rw [eN]; rfl) hvis
  obtain ⟨hox, ⟨cdD, hD⟩, hsub, hsupr, hsB, hnf, hop⟩ := hc
  obtain ⟨nm, q, N0, bs, bm, sn, sub, ab, col, dd, k0, k1, k2, k3, k5, hC, hbm⟩ := id hox.cls
  have hKin : K.In h₁ := KX.keeps kp
  obtain ⟨oD, hD1, hD2⟩ : ∃ oD, h₁.get? D = some oD ∧ oD.data = .cls cdD := by
    unfold PySem.W.clsIn at hD
    split at hD
    · rename_i lo
      cases hD
      exact ⟨_, hKin _ _ lo, rfl⟩
    · cases hD
  obtain ⟨cd, hcl⟩ : ∃ cd, PySem.W.clsIn K C = some cd := ⟨_, by unfold PySem.W.clsIn; rw [hC] <;> rfl⟩
  obtain ⟨t1, hxo⟩ := exo_at I.hok hx
  have J0 : PySem.W.InstAt h₁ x ({ cls := .ref C, dict := none, data := .fields #[.ref t1, .none, .none, .none, .bool false, .none] } : Obj) C none := ⟨hxo, rfl, rfl, trivial⟩
  obtain ⟨mb, hb1, hb2⟩ := e0.mod.blt
  have bk : ∀ b o, base.get? b = some o → h₁.get? b = some o := fun b o e => kp b o (e0.bs b o e).1
  have hhd : callEnv (iniFd st qual kV doc pm ct an cda cc) s.heap.objs.size fI = envF F fI s.heap.objs.size := rfl
  refine PySem.ks_codeAny_funcAt ?_
  show _root_.PySem.wpAt (model P w) (A.deeper (envF F fI s.heap.objs.size)) (.func (C8.fnBody st) (envF F fI s.heap.objs.size)) (execs (C8.fnBody st) (envF F fI s.heap.objs.size)) _ _ _
  rw [hbd]
  generalize hen : envF F fI s.heap.objs.size = env
  have hint : interactive env = false := by
    rw [← hen]
    show ((C8.fnScope st).kind == .module && _) = false
    rw [S.kind] <;> rfl
  have hcall : eval (.Call (.Attribute (.Call (.Name "super" p0) [] [] p1) "__init__" p2) [e] [] p3) env = (do
      let ov ← attributeBase (.Call (.Name "super" p0) [] [] p1) "__init__" env (eval (.Call (.Name "super" p0) [] [] p1) env)
      standAt p2.atName
      let (g, first) ← holding [ov] (getMethod ov "__init__" (do return (← importBound (.Call (.Name "super" p0) [] [] p1) env).getD true))
      callWith p3 g first (backTo p3 (starEach [e] env)) []) := by
    have hf : methodCallForm ([e].length + ([] : List Keyword).length) (backTo p3 (starEach [e] env)) (backToKw p3 (keywordEach [] env)) = true := by
      rw [hst] <;> rfl
    show (attributeBase (.Call (.Name "super" p0) [] [] p1) "__init__" env (eval (.Call (.Name "super" p0) [] [] p1) env) >>= fun ov => standAt p2.atName >>= fun _ => methodCall (.Call (.Name "super" p0) [] [] p1) "__init__" p2 p3 env ov ([e].length + ([] : List Keyword).length) (backTo p3 (starEach [e] env)) (backToKw p3 (keywordEach [] env))) = _
    unfold methodCall methodCallPos calleeOf
    simp only [hf, hln, Bool.not_true, Bool.or_true, if_true]
    rfl
  rw [← hen] at hint hcall ⊢
  refine PySem.ks_wpAt_execs_cons (PySem.ks_wpAt_Expr_any (PySem.ks_wpAt_MethodCall (PySem.ks_wpAt_super_base hks (S.frk _ (by simp)) (by decide) rfl (kp _ _ (KX _ _ lk)) rfl har rfl (kp _ _ (KX _ _ lc)) rfl hvs hfile htop ?_) hcall) hint)
  refine PySem.W.ks_loadName_global S.kind hks (Calls.loadGlobal_builtin (e0.mod.glob.keeps bk) hsup (hb1.keeps bk) ((hb2 _ (by decide)).trans (show bootBuiltins "super" = some (.type "super") by first | rfl | kernel_rfl | decide +kernel)) ⟨rfl, ?_⟩)
  refine wpAny_loadName_free S.kind (S.frk _ (by simp)) (c := cc) (by simp [envF, PySem.W.envX, F, List.lookup]) ⟨_, kp _ _ (KX _ _ lcc), rfl⟩ ?_
  rw [har2]
  refine wpAny_loadName_local S.kind (S.par _ (by simp)) hns (v := .ref x) (NdefX.zip_look (i := 0) hndp rfl rfl) ?_
  refine PySem.ks_wpAny_isType_cls hD1 hD2 ⟨rfl, ?_⟩
  refine PySem.ks_wpAny_call_super hD1 hD2 J0.at_ J0.cls (fun c z => by cases z) (PySem.W.looks_mroIn hKin hsub) (fun h2 hso k2 => ?_)
  have hKin2 : K.In h2 := hKin.keeps k2
  have I2 : L2.Inv X [] (startF (["self", p, "__class__"] : List Str) [.ref x, v] [none]) H { s with heap := h2, toks := s.toks + ((["self", p] : List Str).zip [Value.ref x, u1]).length } := I.kept k2
  have hx2 := k2 _ _ J0.at_
  have J2 : PySem.W.InstAt h2 x ({ cls := .ref C, dict := none, data := .fields #[.ref t1, .none, .none, .none, .bool false, .none] } : Obj) C none := ⟨hx2, rfl, rfl, trivial⟩
  have hal : PySem.W.alongIn K "__init__" ((cd.mro.dropWhile (· != .ref D)).drop 1) = some (some (.builtin "ValueError.__init__")) := by
    unfold PySem.W.ks_superIn at hsupr
    rw [hcl] at hsupr
    exact hsupr
  refine PySem.W.kxs_getMethod PySem.W.kxs_ValueError hso (PySem.W.looks_opaque hKin2 hop) (l₀ := cd.mro) (fun A Q E s k q => wpAny_bind ((PySem.W.looks_clsIn hKin2 hcl) A _ E s k (wpAny_pure q))) rfl hKin2 hal (J2.type.andThen (PySem.W.looks_subIn hKin2 hsB)) (PySem.W.ks_ne hKin2 J2 hcl) (by decide) ?_
  -- the bound method at u
  have hu3 : (h2.push (PySem.W.kxs_mw "ValueError.__init__" x)).get? h2.objs.size = some (PySem.W.kxs_mw "ValueError.__init__" x) := Heap.get?_push_size _ rfl
  have I3 : L2.Inv X [] (startF (["self", p, "__class__"] : List Str) [.ref x, v] [none]) H { s with heap := h2.push (PySem.W.kxs_mw "ValueError.__init__" x), toks := s.toks + ((["self", p] : List Str).zip [Value.ref x, u1]).length + 1 } := I2.kept fun b o e => Heap.get?_push_of_some _ e
  have hfp : FpOk X [] H h2.objs.size := I2.fpOk (Nat.le_refl _) (I2.hok.fresh (Nat.le_refl _))
  have I3' : L2.Inv X [(h2.objs.size, PySem.W.kxs_mw "ValueError.__init__" x)] (startF (["self", p, "__class__"] : List Str) [.ref x, v] [none]) H { s with heap := h2.push (PySem.W.kxs_mw "ValueError.__init__" x), toks := s.toks + ((["self", p] : List Str).zip [Value.ref x, u1]).length + 1 } := I3.pins_of fun q hq => by
    rw [List.mem_singleton] at hq
    subst hq
    exact ⟨hu3, hfp.1, hfp.2.1, hfp.2.2.1, fun v z => by cases z⟩
  clear eenv eN eK eP ew eA emg
  subst hX
  have hpa : PA (ncx C8.CX0 P w K mg base (["self", p, "__class__"] : List Str) F fI A outer s H E) [e] (tCons te tNil) := pa_cons hte pa_nil (hst _)
  have hrd : tCons te tNil (startF (["self", p, "__class__"] : List Str) [.ref x, v] [none]) H (fun ws H1 => ws.length = 1 ∧ H1 = H) := hteq v _ _ _ hokv rfl fun z => ⟨rfl, rfl⟩
  have hend : ∀ {Q' : Value → Shared → Prop}, (∀ s', L2.Inv (ncx C8.CX0 P w K mg base (["self", p, "__class__"] : List Str) F fI A outer s H E) [] (startF (["self", p, "__class__"] : List Str) [.ref x, v] [none]) H s' → Q' .none s') →
      wpAny (model P w) (A.deeper (envF F fI s.heap.objs.size)) (callWith p3 (.ref h2.objs.size) [] (backTo p3 (starEach [e] (envF F fI s.heap.objs.size))) []) Q' (ncx C8.CX0 P w K mg base (["self", p, "__class__"] : List Str) F fI A outer s H E).xe { s with heap := h2.push (PySem.W.kxs_mw "ValueError.__init__" x), toks := s.toks + ((["self", p] : List Str).zip [Value.ref x, u1]).length + 1 } := fun {Q'} hQ => by
    have hru := hpa.run p3 _ _ _ H _ I3' hrd
    rw [show (ncx C8.CX0 P w K mg base (["self", p, "__class__"] : List Str) F fI A outer s H E).env = envF F fI s.heap.objs.size from rfl] at hru
    rw [hst] at hru ⊢
    refine PySem.W.kxs_callWith (i := "ValueError.__init__") (x := x) (by rfl) (Calls.evalArgs_plain (wpAny_mono hru (fun ws s4 ⟨vs4, H4, I4, r4, e4, e5⟩ => ?_) fun _ _ z => z))
    subst e5
    have hl4 : ws.length = 1 := by rw [← r4.length]; exact e4
    have hu4 := (I4.pin (h2.objs.size, PySem.W.kxs_mw "ValueError.__init__" x) (by simp)).1
    refine ⟨hu4, ?_⟩
    obtain ⟨t4, hx4⟩ := exo_at I4.hok hx
    have hC4 := I4.kIn _ _ hC
    have I5 : L2.Inv (ncx C8.CX0 P w K mg base (["self", p, "__class__"] : List Str) F fI A outer s H4 E) [] (startF (["self", p, "__class__"] : List Str) [.ref x, v] [none]) H4 s4 := I4.pins_of fun q hq => by cases hq
    obtain ⟨hp4, g4, d4, tk4, os4⟩ := s4
    refine call_mw hC4 hx4 hu4 (by rw [List.nil_append, hl4, sizeLine_eq]; decide) fun h' t5 k5 hx5 => hQ _ ?_
    have J := I5.write (t' := tk4) (x := x) (e := x) (o := exo x C none) (by rw [hx]; exact True.intro) (.inl rfl) k5 ⟨_, hx5⟩ (exo_ok hx5)
    have eu : upd H4 x (exo x C none) = H4 := funext fun b => by
      by_cases hb : b = x
      · rw [hb, upd_same, hx]
      · exact upd_ne hb
    rw [eu] at J
    exact J
  refine hend fun s5 I5 => ?_
  refine PySem.wpAt_of_wpAny ?_
  have hself : PE (ncx C8.CX0 P w K mg base (["self", p, "__class__"] : List Str) F fI A outer s H E) (.Name "self" q1) (tVar 0) := pe_var rfl (.inl (S.par _ (by simp)))
  have hpar2 : PE (ncx C8.CX0 P w K mg base (["self", p, "__class__"] : List Str) F fI A outer s H E) (.Name p q3) (tVar 1) := pe_var (hd := hpd) (hcd := hpc) rfl hvis
  have hps := pss_one (ps_ost (f := f) (p' := q2) (pos := q4) hself hpar2)
  refine wpAny_mono (hps.run [] s5 _ H { nx := fun _ H' => Q .non H', rt := Q } I5 ?_) (fun fl s' hs => ?_) fun e s' hs => hs
  · exact ⟨v, rfl, .ref x, rfl, x, C, rfl, hox, hnf, .inl ⟨hx, fun dx h1 h2 => hq dx h1 h2⟩⟩
  · have fin : ∀ {σ' : L2.St} {H' : Hp} {v : V} {u : Value}, L2.Inv (ncx C8.CX0 P w K mg base (["self", p, "__class__"] : List Str) F fI A outer s H E) [] σ' H' s' → RelV v u → Q v H' → CE outer P w H s Q u s' := fun {σ' H' v u} J rv z => ⟨v, H', J.os, J.bare, J.base, J.hok, rv, z⟩
    cases fl with
    | ret u => exact let ⟨v, σ', H', J, rv, z⟩ := hs; fin J rv z
    | next => exact let ⟨σ', H', J, z⟩ := hs; fin (v := V.non) (u := Value.none) J rfl z
    | brk => exact let ⟨_, _, _, z⟩ := hs; z.elim
    | cont => exact let ⟨_, _, _, z⟩ := hs; z.elim
end
theorem arg_str {z : Str} {n : Nat} {pos : Pos} {p : Str} {okv : V → Prop} : ArgE (.Constant (.str z) n pos) p okv := ⟨fun _ => rfl, fun X _ _ => ⟨_, pe_str, fun v σ H Q _ _ q => q _⟩⟩
/-- a value that an f-string takes -/
def FmtOk (v : V) : Prop := (∃ y : Str, v = .str y ∧ y.length ≤ 1000000) ∨ ∃ i : Int, v = .int i ∧ i.natAbs.log2 < 1920
theorem arg_fmt {z : Str} {n : Nat} {p1 p2 p3 p4 : Pos} {p : Str} (hz : z.length ≤ 1000) (hpd : (p == ("__debug__" : Str)) = false) (hpc : (p == ("__classdict__" : Str)) = false) : ArgE (.JoinedStr [.Constant (.str z) n p1, .FormattedValue (.Name p p2) (-1) none p3] p4) p FmtOk :=
  ⟨fun _ => rfl, fun X hN hV => ⟨_, pe_joined (.cons (pe_str (X := X)) (.cons (pe_fmt (pe_var (i := 1) (hd := hpd) (hcd := hpc) hN hV)) .nil)), fun v σ H Q hv hs q => by
    have e0 : (Str.empty : Str).length = 0 := rfl
    refine ⟨z, rfl, by rw [PySem.Str.length_append, e0, sizeLine_eq]; omega, v, hs, ?_⟩
    rcases hv with ⟨y, rfl, hy⟩ | ⟨i, rfl, hi⟩
    · exact .inl ⟨y, rfl, by rw [sizeLine_eq]; omega, y, rfl, by rw [PySem.Str.length_append, PySem.Str.length_append, e0, sizeLine_eq]; omega, q _⟩
    · have h1 := PyProof.Rows.int_text_len_1921 hi
      exact .inr ⟨i, rfl, hi, _, rfl, by rw [PySem.Str.length_append, PySem.Str.length_append, e0, sizeLine_eq]; omega, q _⟩⟩⟩
end X7
set_option maxHeartbeats 4000000
namespace X7
open PySem PySem.Spec PyProof.Rows L2
open L2H (RoomH PinOk cxH inv_startH)
structure CalX (P : Program) (w : World) (K : PySem.W.Frag) (mg : Str → Option Value) (base : Heap) (k : Nat) (x : Str) (sp : Sp) : Prop where
  ex : ∃ (f : Addr) (fd : FuncData) (ps : List Str), FnOk P w K mg base (L2.CX P w) k f fd ps sp ∧ mg x = some (.ref f) ∧ PySem.W.keepIn K (.ref f) = true ∧ Binds K fd ps []
section
variable {P : Program} {w : World} {K : PySem.W.Frag} {mg : Str → Option Value} {base : Heap} {N ps : List Str} {x qual : Str} {st : Stmt} {f : Addr} {fd : FuncData} {k : Nat} {sp : Sp}
theorem fnX (F : C8.Fun K x qual st f fd) (S : FnScope N ps (C8.fnScope st)) (len : ∀ vs H Q E, sp vs H Q E → vs.length = ps.length)
    (hb : ∀ (cdv : Value) (A : Around) (outer : List Env) (s : Shared) (H : Hp) (vs : List V) (Q : VK) (E : XK), Room k (A.deeper (envOfC qual (C8.fnScope st) s.heap.objs.size f cdv)) → sp vs H Q E →
      ∃ t, PSs (cxOf (L2.CX P w) P w K mg base N qual (C8.fnScope st) f cdv A outer s H E) (C8.fnBody st) t ∧ t { nx := fun _ H' => Q .non H', rt := Q } (L2.start N vs) H) : FnOk P w K mg base (L2.CX P w) (k + 1) f fd ps sp := by
  obtain ⟨_, _, _, _, _, _, _, cdv, _, _, rfl, lk, hcd⟩ := F.ex
  exact fn_of lk hcd S len fun A outer s H vs Q E hr hsp => hb cdv A outer s H vs Q E hr hsp
theorem calX (F : C8.Def K mg x st f fd) (b : Binds K fd ps []) (S : FnScope N ps (C8.fnScope st)) (len : ∀ vs H Q E, sp vs H Q E → vs.length = ps.length)
    (hb : ∀ (cdv : Value) (A : Around) (outer : List Env) (s : Shared) (H : Hp) (vs : List V) (Q : VK) (E : XK), Room k (A.deeper (envOfC x (C8.fnScope st) s.heap.objs.size f cdv)) → sp vs H Q E →
      ∃ t, PSs (cxOf (L2.CX P w) P w K mg base N x (C8.fnScope st) f cdv A outer s H E) (C8.fnBody st) t ∧ t { nx := fun _ H' => Q .non H', rt := Q } (L2.start N vs) H) : CalX P w K mg base (k + 1) x sp :=
  ⟨f, fd, ps, fnX F.fn S len hb, F.mgf, F.kp, b⟩
end
section
variable {X : Cx} {k j : Nat} {x : Str} {sp : Sp} {W : WX} {e : Expr} {es : List Expr} {t : TA} {p pos : Pos}
theorem pe_cX (c : CalX X.prog X.w X.K X.mg X.base k x sp) (hr : Room j X.A) (hk : k ≤ j) (tk : Takes X W) (hg : Gl X x) (ha : PA X (e :: es) t)
    (hdb : (x == ("__debug__" : Str)) = false := by decide) (he : starEach (e :: es) X.env = (false, eval e X.env) :: starEach es X.env := by rfl) (hpl : (backTo pos (starEach es X.env)).any (·.1) = false := by rfl) :
    PE X (.Call (.Name x p) (e :: es) [] pos) (tCallS sp (WE W) t) := by
  obtain ⟨f, fd, ps, F, hm, kp, b⟩ := c.ex
  exact pe_callS F (hr.mono hk) hg hm kp b (fun σ => passAt tk σ) ha hdb he hpl
theorem i_callS {E : L2.St → XK} {σ : L2.St} {H : Hp} {Q : VK} (q : t σ H fun vs H1 => sp vs H1 Q (E σ)) : tCallS sp E t σ H Q := q
theorem PS_nox {st : Stmt} {t : TS} (h : PS X.nox st t) : PS X st t := ⟨fun pins s σ H D I hw => by
  have z := (PSs.nox (X := X) (pss_one h)).run pins s σ H D I
  have z2 := (pss_one h).run pins s σ H D (I.wish _) hw
  exact wpAny_mono (h.run pins s σ H D (I.wish _) hw) (fun f s' q => q.unwish) fun e s' q => q.elim⟩
end
structure MakE (P : Program) (w : World) (K : PySem.W.Frag) (mg : Str → Option Value) (base : Heap) (x : Str) (C D : Addr) (f : Str) (okv : V → Prop) : Prop where
  ex : ∃ (fI : Addr) (fd : FuncData) (ps : List Str), FnOk P w K mg base C8.CX0 1 fI fd ps (spIni K D f okv) ∧ Binds K fd ps [] ∧ PySem.W.findIn K (.ref C) "__init__" = some (some (.ref fI)) ∧ PySem.W.typeIn K (.ref fI) = some (.type "function")
  ic : IniC K C D f
  mg : mg x = some (.ref C)
theorem del_exo {fs : List (Str × V)} {H1 : Hp} {a d : Addr} {o o1 o2 : HO} (ha : H1 a = none) (hd : d ≠ a) : upd (del (upd (upd (upd H1 a o) d o1) a o2) a) d (.xd fs) = upd H1 d (.xd fs) := by
  funext b
  by_cases h1 : b = d
  · subst h1
    rw [upd_same, upd_same]
  · rw [upd_ne h1, upd_ne h1]
    by_cases h2 : b = a
    · subst h2
      rw [del_same, ha]
    · rw [del_ne h2, upd_ne h2, upd_ne h1, upd_ne h2]
/-- an error is made: its one argument kept in its dict -/
theorem mkE_end {K : PySem.W.Frag} {C D : Addr} {f : Str} {okv : V → Prop} {v : V} {H1 : Hp} {Q E : XK} (ic : IniC K C D f) (hv : okv v) (q : ∀ d, H1 d = none → Q (.ref C) (some d) (upd H1 d (.xd [(f, v)]))) :
    [v].length ≤ 1000 ∧ ∀ a, H1 a = none → spIni K D f okv (.ref a :: ([v] ++ [])) (upd H1 a (exo a C none)) (fun v' H2 => v' = .non ∧ ∃ (d : Addr) (fs : List (Str × V)), H2 a = some (exo a C (some d)) ∧ H2 d = some (exd d fs) ∧ H1 d = none ∧ Q (.ref C) (some d) (upd (del H2 a) d (.xd fs))) E := by
  refine ⟨by show 1 ≤ 1000; decide, fun a ha => ⟨a, C, v, rfl, hv, ic, upd_same, fun dx hdx hne => ⟨rfl, dx, [(f, v)], upd_same, by rw [upd_ne hne, upd_same], ?_, ?_⟩⟩⟩
  · rw [upd_ne hne] at hdx
    exact hdx
  · rw [upd_ne hne] at hdx
    rw [del_exo ha hne]
    exact q dx hdx
section
variable {X : Cx} {j : Nat} {x f : Str} {C D : Addr} {okv : V → Prop} {W : WX} {e : Expr} {t : TA} {p pos pos2 : Pos}
theorem pmk_E (m : MakE X.prog X.w X.K X.mg X.base x C D f okv) (hr : Room j X.A) (hk : 2 ≤ j) (hg : Gl X x) (ha : PA X [e] t)
    (hdb : (x == ("__debug__" : Str)) = false := by decide) (he : starEach (e :: []) X.env = (false, eval e X.env) :: starEach [] X.env := by rfl) (hpl : (backTo pos (starEach [] X.env)).any (·.1) = false := by rfl) :
    PMk X (.Call (.Name x p) [e] [] pos) (tMkO C (spIni X.K D f okv) [] t) := by
  obtain ⟨fI, fd, ps, F, b, iC, tI⟩ := m.ex
  exact pmk_oex m.ic.ox iC tI F (hr.mono hk) b .nil C8.pass0 hg m.mg ha hdb he hpl
/-- raise C(e) -/
def tRaiseE (K : PySem.W.Frag) (C D : Addr) (f : Str) (okv : V → Prop) (W : WX) (t : TA) : TS := fun _ σ H => tMkO C (spIni K D f okv) [] t σ H fun cls d H' => W cls d σ H'
theorem ps_raiseE (hc : X.calm = true) (tk : Takes X W) (m : MakE X.prog X.w X.K X.mg X.base x C D f okv) (hr : Room j X.A) (hk : 2 ≤ j) (hg : Gl X x) (ha : PA X [e] t)
    (hdb : (x == ("__debug__" : Str)) = false := by decide) (he : starEach (e :: []) X.env = (false, eval e X.env) :: starEach [] X.env := by rfl) (hpl : (backTo pos (starEach [] X.env)).any (·.1) = false := by rfl) :
    PS X (.Raise (some (.Call (.Name x p) [e] [] pos)) none pos2) (tRaiseE X.K C D f okv W t) := ps_raise hc tk (pmk_E m hr hk hg ha hdb he hpl)
end
theorem i_raiseE {K : PySem.W.Frag} {C D : Addr} {f : Str} {okv : V → Prop} {W : WX} {t : TA} {Dn : Ends} {σ : L2.St} {H : Hp} (q : t σ H fun vs H1 => vs.length ≤ 1000 ∧ ∀ a, H1 a = none → spIni K D f okv (.ref a :: (vs ++ [])) (upd H1 a (exo a C none))
    (fun v' H2 => v' = .non ∧ ∃ (d : Addr) (fs : List (Str × V)), H2 a = some (exo a C (some d)) ∧ H2 d = some (exd d fs) ∧ H1 d = none ∧ W (.ref C) (some d) σ (upd (del H2 a) d (.xd fs))) (fun _ _ _ => False)) : tRaiseE K C D f okv W t Dn σ H := q
structure FnE (P : Program) (w : World) (K : PySem.W.Frag) (mg : Str → Option Value) (base : Heap) (k : Nat) (f : Addr) (fd : FuncData) (ps : List Str) (sp : Addr → Value → Option Addr → Sp) : Prop where
  len : ∀ a c d vs H Q E, sp a c d vs H Q E → vs.length = ps.length
  run : ∀ (A : Around) (outer : List Env) (s : Shared) (H : Hp) (args : Args) (us : List Value) (vs : List V) (Q : VK) (E : XK) (q : Addr × Obj), RoomH k A → PinOk outer H s q → (∃ fv, q.2.data = .fields fv) → Env0 P w K mg base A outer s H → BindsTo s fd args (ps.zip us) → Vals vs us → sp q.1 q.2.cls q.2.dict vs H Q E →
    codeAny (model P w) A (.call (.ref f) args) (CR C8.CX0 outer P w H s Q E) s
section
variable {P : Program} {w : World} {K : PySem.W.Frag} {mg : Str → Option Value} {base : Heap} {N ps : List Str} {x qual : Str} {st : Stmt} {f : Addr} {fd : FuncData} {k : Nat} {sp : Addr → Value → Option Addr → Sp}
theorem fnE (F : C8.Fun K x qual st f fd) (S : FnScope N ps (C8.fnScope st)) (len : ∀ a c d vs H Q E, sp a c d vs H Q E → vs.length = ps.length)
    (hb : ∀ (cdv : Value) (A : Around) (outer : List Env) (s : Shared) (H : Hp) (vs : List V) (Q : VK) (E : XK) (q : Addr × Obj), RoomH k (A.deeper (envOfC qual (C8.fnScope st) s.heap.objs.size f cdv)) → (∃ fv, q.2.data = .fields fv) → sp q.1 q.2.cls q.2.dict vs H Q E →
      ∃ t, PSs (cxH C8.CX0 P w K mg base N qual (C8.fnScope st) f cdv A outer s H E q).nox (C8.fnBody st) t ∧ t { nx := fun _ H' => Q .non H', rt := Q } (L2.start N vs) H) : FnE P w K mg base (k + 1) f fd ps sp := by
  obtain ⟨oc, od, dV, kV, doc, pm, an, cdv, ct, osl, rfl, lk, hcd⟩ := F.ex
  refine ⟨len, fun A outer s H args us vs Q E q hr hpin hqd e0 hbd r hsp => ?_⟩
  have hl := len _ _ _ _ _ _ _ hsp
  have kx : K.In s.heap := e0.mod.kin.keeps fun b o e => (e0.bs b o e).1
  have hk : ∀ y ∈ ps.zip us, (C8.fnScope st).names.lookup y.1 = some .local ∨ ((C8.fnScope st).names.lookup y.1 = some .cell ∧ ((cellsFrom (s.heap.objs.size + 1) (C8.fnScope st).names []).lookup y.1).isSome = true) := fun ⟨n, v⟩ hy => (S.par n (List.of_mem_zip hy).1).elim .inl fun z => .inr ⟨z, PySem.W.cellsFrom_some _ _ _ (.inl z)⟩
  refine codeAny_call_function hr.depth (kx _ _ lk) rfl S.co S.gen rfl (PySem.W.codeRec_of kx hcd) (hbd _ _ _ _ (wpAny_newFunctionEnv_cells S.kind hk fun env he s1 ic => ?_))
  subst he
  refine ⟨(e0.mod.nolimit.keeps fun b o e => (e0.bs b o e).1).keeps ic.toInCall.keep, codeAny_func ?_⟩
  obtain ⟨t, ht, hq⟩ := hb cdv A outer s H vs Q E q (hr.deeper _) hqd hsp
  have I : Inv (cxH C8.CX0 P w K mg base N qual (C8.fnScope st) f cdv A outer s H E q) [] (L2.start N vs) H s1 := inv_startH S hpin e0 hl r ic
  refine wpAny_mono (ht.nox.run [] s1 (L2.start N vs) H _ I hq) (fun fl s' hs => ?_) fun e s' hs => hs
  have fin : ∀ {σ' : L2.St} {H' : Hp} {v : V} {u : Value}, Inv (cxH C8.CX0 P w K mg base N qual (C8.fnScope st) f cdv A outer s H E q) [] σ' H' s' → RelV v u → Q v H' → CE outer P w H s Q u s' := fun {σ' H' v u} J rv z => ⟨v, H', J.os, J.bare, J.base, J.hok, rv, z⟩
  cases fl with
  | ret u => exact let ⟨v, σ', H', J, rv, z⟩ := hs; fin J rv z
  | next => exact let ⟨σ', H', J, z⟩ := hs; fin (v := V.non) (u := Value.none) J rfl z
  | brk => exact let ⟨_, _, _, z⟩ := hs; z.elim
  | cont => exact let ⟨_, _, _, z⟩ := hs; z.elim
end
structure CalE (P : Program) (w : World) (K : PySem.W.Frag) (mg : Str → Option Value) (base : Heap) (k : Nat) (x : Str) (sp : Addr → Value → Option Addr → Sp) : Prop where
  ex : ∃ (f : Addr) (fd : FuncData) (ps : List Str), FnE P w K mg base k f fd ps sp ∧ mg x = some (.ref f) ∧ PySem.W.keepIn K (.ref f) = true ∧ Binds K fd ps []
section
variable {X : Cx} {k j : Nat} {x : Str} {sp : Addr → Value → Option Addr → Sp} {a : Addr} {oe : Obj} {cls : Value} {d : Option Addr} {e : Expr} {es : List Expr} {t : TA} {p pos : Pos}
theorem pe_cE (c : CalE X.prog X.w X.K X.mg X.base k x sp) (hp : (a, oe) ∈ X.pn) (hz : Zc cls d oe) (hf : ∃ vs, oe.data = .fields vs) (hr : RoomH j X.A) (hk : k ≤ j) (hg : Gl X x) (ha : PA X (e :: es) t)
    (hdb : (x == ("__debug__" : Str)) = false := by decide) (he : starEach (e :: es) X.env = (false, eval e X.env) :: starEach es X.env := by rfl) (hpl : (backTo pos (starEach es X.env)).any (·.1) = false := by rfl) :
    PE X (.Call (.Name x p) (e :: es) [] pos) (tCallS (sp a cls d) (fun _ => C8.E0) t) := by
  obtain ⟨f, fd, ps, F, hm, kp, b⟩ := c.ex
  obtain ⟨hz1, hz2⟩ := hz
  subst hz1 hz2
  refine ⟨fun pins s σ H Q I h => ?_⟩
  refine wpAny_Call_Name_kw (ld_glob I hg hm ?_ hdb)
  refine PySem.W.callWith_K (h₀ := X.base) I.ok.mod.kin kp (thn (ha.run pos pins s σ H _ I h) fun us s1 ⟨vs, H1, I1, r, z⟩ => ⟨I1.kIn, ?_⟩) he hpl
  have hl : us.length = ps.length := by rw [← r.length]; exact F.len _ _ _ _ _ _ _ z
  have b1 := b s1 us I1.kIn (by rw [List.append_nil]; exact hl)
  rw [List.append_nil] at b1
  have P1 := I1.pin (a, oe) (List.mem_append_left _ hp)
  have pin : PinOk X.stack H1 s1 (a, oe) := ⟨P1.1, P1.2.1, fun hm => (List.mem_cons.mp (I1.stkSub a hm)).elim P1.2.2.1 P1.2.2.2.1, P1.2.2.2.2⟩
  refine wpAny_call (codeAny_mono (F.run X.A X.stack s1 H1 ⟨us, []⟩ us vs Q C8.E0 (a, oe) (hr.mono hk) pin hf I1.env0 b1 r z) fun r s' hq => ?_)
  cases r with
  | error e => exact hq.elim
  | ok fl => cases fl with
    | ret u => exact I1.after hq
    | next => exact hq.elim
    | brk => exact hq.elim
    | cont => exact hq.elim
end
section
variable {X : Cx} {a D : Addr} {dd : Option Addr} {oe : Obj} {f : Str}
theorem pin_inst {pins : List (Addr × Obj)} {σ : L2.St} {H : Hp} {s : Shared} {d : Addr} {fs : List (Str × V)} (hp : (a, oe) ∈ X.pn) (I : Inv X pins σ H s) (hz : Zc (.ref D) (some d) oe) (hf : ∃ vs, oe.data = .fields vs) (hd : H d = some (.xd fs)) :
    ∃ od, PySem.W.InstAt s.heap a oe D (some od) ∧ ∀ (n : Str) (v : V), fs.lookup n = some v → ∃ u, PySem.W.lookIn n od = some (some u) ∧ RelV v u := by
  obtain ⟨vs, hv⟩ := hf
  obtain ⟨mA, hns, hr⟩ := (show ObjOk X.prog X.w H s.heap d (.xd fs) from I.hok d _ hd)
  obtain ⟨od, ho, hl⟩ := lookIn_ns hns
  have hget := (I.pin (a, oe) (List.mem_append_left _ hp)).1
  refine ⟨od, ⟨hget, hz.1, by unfold PySem.W.notCls; rw [hv] <;> rfl, by rw [hz.2]; exact ho⟩, fun n v e => ?_⟩
  obtain ⟨u, hu, ru⟩ := RelO.some_of (v := v) (o := mA n) (by rw [← e]; exact hr n)
  exact ⟨u, by rw [hl, hu], ru⟩
/-- error.f -/
def tXp (a d : Addr) (f : Str) (te : TE) : TE := fun σ H Q => te σ H fun x H1 => x = .ref a ∧ ∃ (fs : List (Str × V)) (v : V), H1 d = some (.xd fs) ∧ fs.lookup f = some v ∧ Q v H1
theorem pe_xp {d : Addr} {e : Expr} {te : TE} {pos : Pos} (hp : (a, oe) ∈ X.pn) (C : XfC X.K D) (hno : PySem.W.findIn X.K (.ref D) f = some none) (hz : Zc (.ref D) (some d) oe) (hf : ∃ vs, oe.data = .fields vs) (he : PE X e te)
    (hb : attributeBase e f X.env (eval e X.env) = eval e X.env := by rfl) : PE X (.Attribute e f pos) (tXp a d f te) := by
  refine ⟨fun pins s σ H Q I h => attr_of hb (thn (he.run pins s σ H _ I h) fun u s1 hh => ?_)⟩
  obtain ⟨x, H1, I1, rx, rfl, fs, v, ed, l, q⟩ := hh
  cases rx
  obtain ⟨od, J, hl⟩ := pin_inst hp I1 hz hf ed
  obtain ⟨u, hu, ru⟩ := hl f v l
  exact HandSPX.exc_get I1.kIn J C.ga C.gg C.exC (PySem.W.findObj_own C.hdC hno rfl hu) (handed_of ru) ⟨v, H1, I1.tok _, ru, q⟩
/-- isinstance(error, c) -/
def rIsP (K : PySem.W.Frag) (D a d : Addr) : List V → Hp → VK → Prop := fun xs H Q => ∃ (c : V) (cv : Value) (b : Bool) (fs : List (Str × V)), xs = [.ref a, c] ∧ H d = some (.xd fs) ∧ (∀ u, RelV c u → u = cv) ∧ PySem.W.kitOne K (.ref D) cv = some b ∧ Q (.bl b) H
theorem call_isP {d : Addr} (hp : (a, oe) ∈ X.pn) (C : ExcC X.K D) (hz : Zc (.ref D) (some d) oe) (hf : ∃ vs, oe.data = .fields vs) : CallR X (.builtin "isinstance") (rIsP X.K D a d) := by
  intro pins s σ H xs us Q I r h
  obtain ⟨c, cv, b, fs, rfl, hd, hcv, e, q⟩ := h
  obtain ⟨u1, u2, rfl, r1, r2⟩ := vals2 r
  cases r1
  have ec := hcv _ r2
  subst ec
  obtain ⟨od, J, _⟩ := pin_inst hp I hz hf hd
  have hcl : (PySem.W.clsIn X.K D).isSome = true := by obtain ⟨cd, hc, _⟩ := PySem.W.any_some C.hd; rw [hc] <;> rfl
  exact PySem.W.kia_one (PySem.W.kitx_exc hcl C.hg C.hk C.hs C.ha C.hn C.ht C.hm) I.kIn J e (fun z => nomatch z) fun tk => ⟨.bl b, H, I.kept (t' := tk) fun _ _ z => z, rfl, q⟩
/-- isinstance(error, (c, ..)) -/
def rIsPT (K : PySem.W.Frag) (D a d : Addr) : List V → Hp → VK → Prop := fun xs H Q => ∃ (T : Addr) (cs : List Addr) (b : Bool) (fs : List (Str × V)), xs = [.ref a, .ref T] ∧ H T = some (.tup (cs.map V.ref)) ∧ H d = some (.xd fs) ∧ PySem.W.kitAny K (.ref D) (cs.map Value.ref) = some b ∧ Q (.bl b) H
theorem vals_refs : ∀ {cs : List Addr} {us : List Value}, Vals (cs.map V.ref) us → us = cs.map Value.ref
  | [], _, .nil => rfl
  | c :: cs, _, .cons r t => by
    cases r
    rw [vals_refs t]
    rfl
theorem call_isPT {d : Addr} (hp : (a, oe) ∈ X.pn) (C : ExcC X.K D) (hz : Zc (.ref D) (some d) oe) (hf : ∃ vs, oe.data = .fields vs) : CallR X (.builtin "isinstance") (rIsPT X.K D a d) := by
  intro pins s σ H xs us Q I r h
  obtain ⟨T, cs, b, fs, rfl, hT, hd, e, q⟩ := h
  obtain ⟨u1, u2, rfl, r1, r2⟩ := vals2 r
  cases r1
  cases (show u2 = Value.ref T from r2)
  obtain ⟨od, J, _⟩ := pin_inst hp I hz hf hd
  obtain ⟨_, its, rv, o, h1, h2, n, h3⟩ := (show ObjOk X.prog X.w H s.heap T (.tup (cs.map V.ref)) from I.hok T _ hT)
  have e3 := vals_refs rv
  subst e3
  obtain ⟨oc, od', dt, sl⟩ := o
  dsimp only at h2 h3
  subst h2 h3
  have hcl : (PySem.W.clsIn X.K D).isSome = true := by obtain ⟨cd, hc, _⟩ := PySem.W.any_some C.hd; rw [hc] <;> rfl
  exact PySem.W.kia_tup (PySem.W.kitx_exc hcl C.hg C.hk C.hs C.ha C.hn C.ht C.hm) I.kIn J h1 e (fun z => nomatch z) fun tk => ⟨.bl b, H, I.tok tk, rfl, q⟩
end
section
variable {prog : Program} {w : World} {A : Around} {E : Value → Shared → Prop} {s : Shared} {K : PySem.W.Frag} {x y C f : Addr} {ox oy : Obj} {odx ody : Option Obj}
open PySem.W in
theorem callSp_K {M : Model} {name : Str} {args : List Value} {Q : Option Value → Shared → Prop} (X : K.In s.heap) (I : InstAt s.heap x ox C odx) (hs : findIn K (.ref C) name = some (some (.ref f))) (hf : isFn K (.ref f) = true)
    (h : wpAny M A (call (.ref f) (.ref x :: args)) (fun v => Q (some v)) E s) : wpAny M A (callSpecial? (.ref x) name args) Q E s := by
  unfold callSpecial? specialOf
  refine wpAny_bind (wpAny_bind (I.type.here ((looks_findIn X hs).here ?_)))
  refine wpAny_holding (wpAny_bind ((bind_fn X _ (beq_iff_eq.mp hf)).here ?_))
  exact wpAny_bind (wpAny_mono h (fun v s' z => wpAny_pure z) fun _ _ z => z)
/-- a value that an operator's method may hand back -/
def NotNI (Q : Value → Shared → Prop) : Value → Shared → Prop := fun v s' => v ≠ .notImplemented ∧ Q v s'
open PySem.W in
theorem tryM_K {M : Model} {name : Str} {b : Value} {Q : Option Value → Shared → Prop} (X : K.In s.heap) (I : InstAt s.heap x ox C odx) (hs : findIn K (.ref C) name = some (some (.ref f))) (hf : isFn K (.ref f) = true)
    (h : wpAny M A (call (.ref f) [.ref x, b]) (NotNI fun v => Q (some v)) E s) : wpAny M A (tryMethod (.ref x) name b) Q E s := by
  unfold tryMethod
  refine wpAny_bind (callSp_K X I hs hf (wpAny_mono h (fun v s' ⟨n, z⟩ => ?_) fun _ _ z => z))
  cases v <;> first | exact (n rfl).elim | exact wpAny_pure z
open PySem.W in
theorem fills_K {M : Model} {h : Heap} {nm : String} {r : List Value} {cd : ClassData} (X : K.In h) (hc : clsIn K C = some cd) (hm : cd.mro = .ref C :: r) (hs : findIn K (.ref C) (PySem.dunder nm) = some (some (.ref f))) : Looks M h (fillsNumberSlot (.ref C) nm) true := by
  intro A Q E s k q
  have L1 : Looks M h (mroOf (.ref C)) (.ref C :: r) := by
    rw [← hm]
    exact fun A Q E s k q => wpAny_bind ((looks_clsIn X hc) A _ E s k (wpAny_pure q))
  have L2 := looks_findIn (M := M) X hs
  unfold fillsNumberSlot
  refine wpAny_bind (L1 A _ E s k ?_)
  unfold List.anyM
  refine wpAny_bind (show wpAny M A (List.anyM _ [PySem.dunder nm, PySem.dunderR nm]) _ E s from ?_)
  unfold List.anyM
  refine wpAny_bind (wpAny_bind (L2 A _ E s k ?_))
  exact wpAny_pure (wpAny_pure (wpAny_pure q))
open PySem.W in
theorem bin1_K {nm : String} {r : List Value} {cd : ClassData} {Q : Option Value → Shared → Prop} (X : K.In s.heap) (I : InstAt s.heap x ox C odx) (J : InstAt s.heap y oy C ody) (hc : clsIn K C = some cd) (hm : cd.mro = .ref C :: r)
    (hs : findIn K (.ref C) (PySem.dunder nm) = some (some (.ref f))) (hf : isFn K (.ref f) = true) (h : wpAny (model prog w) A (call (.ref f) [.ref x, .ref y]) (NotNI fun v => Q (some v)) E s) : wpAny (model prog w) A (binaryOp1 nm (.ref x) (.ref y)) Q E s := by
  have LF := fills_K (M := model prog w) X hc hm hs
  unfold binaryOp1
  refine wpAny_bind (I.type.here (wpAny_bind (J.type.here (wpAny_bind (LF.here ?_)))))
  simp only [beq_self_eq_true, if_true]
  refine wpAny_bind (wpAny_pure ?_)
  simp only [Bool.and_false, Bool.false_and, Bool.false_eq_true, if_false, pure_bind, if_true]
  refine wpAny_bind (tryM_K X I hs hf (wpAny_mono h (fun v s' ⟨n, z⟩ => ⟨n, wpAny_pure z⟩) fun _ _ z => z))
open PySem.W in
theorem bin_K {op : Operator} {r : List Value} {cd : ClassData} {Q : Value → Shared → Prop} (X : K.In s.heap) (I : InstAt s.heap x ox C odx) (J : InstAt s.heap y oy C ody) (hc : clsIn K C = some cd) (hm : cd.mro = .ref C :: r)
    (hs : findIn K (.ref C) (PySem.dunder op.info.2) = some (some (.ref f))) (hf : isFn K (.ref f) = true) (h : wpAny (model prog w) A (call (.ref f) [.ref x, .ref y]) (NotNI Q) E s) : wpAny (model prog w) A (binaryOp op (.ref x) (.ref y)) Q E s := by
  unfold binaryOp
  refine wpAny_holding (wpAny_bind (bin1_K X I J hc hm hs hf (wpAny_mono h (fun v s' ⟨n, z⟩ => ⟨n, wpAny_pure z⟩) fun _ _ z => z)))
open PySem.W in
theorem inv_K {Q : Value → Shared → Prop} (X : K.In s.heap) (I : InstAt s.heap x ox C odx) (hs : findIn K (.ref C) "__invert__" = some (some (.ref f))) (hf : isFn K (.ref f) = true)
    (h : wpAny (model prog w) A (call (.ref f) [.ref x]) Q E s) : wpAny (model prog w) A (unaryOp .Invert (.ref x)) Q E s := by
  unfold unaryOp
  exact wpAny_holding (wpAny_bind (callSp_K X I hs hf (wpAny_mono h (fun v s' z => wpAny_pure z) fun _ _ z => z)))
end
/-- an own operator's method -/
structure OpM (P : Program) (w : World) (K : PySem.W.Frag) (mg : Str → Option Value) (base : Heap) (k : Nat) (C : Addr) (nm : Str) (sp : Sp) : Prop where
  ex : ∃ (f : Addr) (fd : FuncData) (ps : List Str) (cd : ClassData) (r : List Value), FnOk P w K mg base (L2.CX P w) k f fd ps sp ∧ Binds K fd ps [] ∧ PySem.W.clsIn K C = some cd ∧ cd.mro = .ref C :: r ∧ PySem.W.findIn K (.ref C) nm = some (some (.ref f)) ∧ PySem.W.isFn K (.ref f) = true
def tOwnBin (C : Addr) (sp : Sp) (E : L2.St → XK) (ta tb : TE) : TE := fun σ H Q => ta σ H fun x H1 => tb σ H1 fun y H2 => ∃ a dx fs b dy gs, x = .ref a ∧ y = .ref b ∧ H2 a = some (.ins C dx fs) ∧ H2 b = some (.ins C dy gs) ∧ sp [.ref a, .ref b] H2 (fun v H3 => (∃ c : Addr, v = .ref c) ∧ Q v H3) (E σ)
def tOwnUn (C : Addr) (sp : Sp) (E : L2.St → XK) (ta : TE) : TE := fun σ H Q => ta σ H fun x H1 => ∃ a dx fs, x = .ref a ∧ H1 a = some (.ins C dx fs) ∧ sp [.ref a] H1 Q (E σ)
section
variable {X : Cx} {k j : Nat} {C : Addr} {sp : Sp} {W : WX} {a b : Expr} {ta tb : TE} {pos : Pos} {op : Operator}
theorem pe_ownbin (c : OpM X.prog X.w X.K X.mg X.base k C (PySem.dunder op.info.2) sp) (hr : Room j X.A) (hk : k ≤ j) (tk : Takes X W) (ha : PE X a ta) (hb : PE X b tb) : PE X (.BinOp a op b pos) (tOwnBin C sp (WE W) ta tb) := by
  obtain ⟨f, fd, ps, cd, r, F, bd, hc, hm, hs, hf⟩ := c.ex
  refine ⟨fun pins s σ H Q I h => wpAny_BinOp (binT ha hb I h fun v u s2 x y H2 I2 rx ry q => ?_)⟩
  obtain ⟨p, dx, fs, p', dy, gs, rfl, rfl, e1, e2, q⟩ := q
  cases rx
  cases ry
  obtain ⟨m1, J1, _⟩ := ins_get I2.hok e1
  obtain ⟨m2, J2, _⟩ := ins_get I2.hok e2
  obtain ⟨od1, J1, _⟩ := J1.look
  obtain ⟨od2, J2, _⟩ := J2.look
  refine bin_K I2.kIn J1 J2 hc hm hs hf (thn (run_fnS (E := WE W) (us := [Value.ref p, Value.ref p']) (vs := [V.ref p, V.ref p']) F (hr.mono hk) bd (passAt tk σ) I2 (.cons rfl (.cons rfl .nil)) q) fun v s3 hv => ?_)
  obtain ⟨z, H3, I3, rz, ⟨c', ez⟩, q3⟩ := hv
  subst ez
  obtain rfl : v = Value.ref c' := rz
  exact ⟨(by intro z; cases z), .ref c', H3, I3, rfl, q3⟩
theorem pe_owninv (c : OpM X.prog X.w X.K X.mg X.base k C "__invert__" sp) (hr : Room j X.A) (hk : k ≤ j) (tk : Takes X W) (ha : PE X a ta) : PE X (.UnaryOp .Invert a pos) (tOwnUn C sp (WE W) ta) := by
  obtain ⟨f, fd, ps, cd, r, F, bd, hc, hm, hs, hf⟩ := c.ex
  refine ⟨fun pins s σ H Q I h => UnaryOp_ (thn (ha.run pins s σ H _ I h) fun v s2 ⟨x, H2, I2, rx, q⟩ => ?_)⟩
  obtain ⟨p, dx, fs, rfl, e1, q⟩ := q
  cases rx
  obtain ⟨m1, J1, _⟩ := ins_get I2.hok e1
  obtain ⟨od1, J1, _⟩ := J1.look
  exact inv_K I2.kIn J1 hs hf (run_fnS (E := WE W) (us := [Value.ref p]) (vs := [V.ref p]) F (hr.mono hk) bd (passAt tk σ) I2 (.cons rfl .nil) q)
theorem i_ownbin {E : L2.St → XK} {σ : L2.St} {H : Hp} {Q : VK} (q : ta σ H fun x H1 => tb σ H1 fun y H2 => ∃ a dx fs b dy gs, x = .ref a ∧ y = .ref b ∧ H2 a = some (.ins C dx fs) ∧ H2 b = some (.ins C dy gs) ∧ sp [.ref a, .ref b] H2 (fun v H3 => (∃ c : Addr, v = .ref c) ∧ Q v H3) (E σ)) : tOwnBin C sp E ta tb σ H Q := q
theorem i_ownun {E : L2.St → XK} {σ : L2.St} {H : Hp} {Q : VK} (q : ta σ H fun x H1 => ∃ a dx fs, x = .ref a ∧ H1 a = some (.ins C dx fs) ∧ sp [.ref a] H1 Q (E σ)) : tOwnUn C sp E ta σ H Q := q
end
/-- C.m, a static method that keeps sp -/
structure StM (P : Program) (w : World) (K : PySem.W.Frag) (mg : Str → Option Value) (base : Heap) (k : Nat) (x : Str) (C : Addr) (m : Str) (sp : Sp) : Prop where
  ex : ∃ (f p : Addr) (fd : FuncData) (ps : List Str) (r : List Value), FnOk P w K mg base C8.CX0 k f fd ps sp ∧ Binds K fd ps [] ∧ mg x = some (.ref C) ∧ PySem.W.keepIn K (.ref f) = true ∧ PySem.W.specialIn K (.ref C) "__getattribute__" = some (some (.builtin "type.__getattribute__")) ∧ PySem.W.typeIn K (.ref C) = some (.type "type") ∧
    PySem.W.readsIn K C (.type "type") = true ∧ PySem.W.findCls K (.ref C) (.type "type") m = some (.get (.builtin "staticmethod.__get__") (.ref p) .none (.ref C)) ∧ PySem.W.recIn K p "staticmethod" = some (.ref f :: r) ∧ PySem.W.handedIn (.ref f) = true
section
variable {X : Cx} {k j : Nat} {x m : Str} {C : Addr} {sp : Sp} {e : Expr} {es : List Expr} {t : TA} {p1 p2 pos : Pos}
theorem pe_stat {pl : Sem Bool} (c : StM X.prog X.w X.K X.mg X.base k x C m sp) (hr : Room j X.A) (hk : k ≤ j) (hg : Gl X x) (ha : PA X (e :: es) t)
    (hdb : (x == ("__debug__" : Str)) = false := by decide) (he : starEach (e :: es) X.env = (false, eval e X.env) :: starEach es X.env := by rfl) (hpl : (backTo pos (starEach es X.env)).any (·.1) = false := by rfl)
    (ht : eval (.Call (.Attribute (.Name x p1) m p2) (e :: es) [] pos) X.env = (do
      let ov ← eval (.Name x p1) X.env
      standAt p2.atName
      let (f, first) ← holding [ov] (getMethod ov m pl)
      callWith pos f first (backTo pos (starEach (e :: es) X.env)) (backToKw pos (keywordEach [] X.env))) := by rfl) : PE X (.Call (.Attribute (.Name x p1) m p2) (e :: es) [] pos) (tCall sp [] C8.E0 t) := by
  obtain ⟨f, p, fd, ps, r, F, b, hm, kp, hga, hty, hrd, hfc, hrec, hv⟩ := c.ex
  refine ⟨fun pins s σ H Q I h => ?_⟩
  refine PySem.W.methodCall_KW (pl := pl) (ld_glob I hg hm ?_ hdb) ht
  obtain ⟨ml, fr⟩ := I.fr
  refine PySem.W.method_of_cls fr I.ok.mod.kin hga (PySem.W.cls_sm fr I.ok.mod.kin hty hrd hfc hrec hv ?_)
  exact PySem.W.callWith_K (h₀ := X.base) I.ok.mod.kin kp (thn (ha.run pos pins _ σ H _ (I.tok _) h) fun us s1 ⟨vs, H1, I1, r1, q⟩ => ⟨I1.kIn, run_fn F (hr.mono hk) b .nil C8.pass0 I1 r1 q⟩) he hpl
end
theorem i_mt {C : Addr} {m : Str} {sp : Sp} {E : XK} {ta : TE} {t : TA} {σ : L2.St} {H : Hp} {Q : VK} (q : ta σ H fun x H1 => ∃ a dx fs, x = .ref a ∧ H1 a = some (.ins C dx fs) ∧ fs.lookup m = none ∧ t σ H1 fun vs H2 => sp (x :: vs) H2 Q E) : tMeth C m sp [] E ta t σ H Q := by
  refine cast ?_ q
  unfold tMeth
  simp only [List.append_nil]
theorem pgTupK {X : Cx} (K : PySem.W.Frag) (h : X.K = K) {es : List Expr} {k : Nat} {t : TGs} {n : Nat} {pos : Pos} (hc : X.calm = true) (hg : PGs X es t) (hn : (assignEach es X.env).length = n := by rfl) (hst : (assignEach es X.env).findIdx? (·.1) = none := by rfl) : PG X (.Tuple es k pos) (gTup K n t) := by
  subst h
  exact pg_tup hc hg hn hst
theorem SX_inj {a b : List Nat} (h : SX.S a = SX.S b) : a = b := by
  have e : (SX.S a).cps.toList = (SX.S b).cps.toList := by rw [h]
  simpa [SX.S] using e
theorem i_xp {a d : Addr} {f : Str} {te : TE} {σ : L2.St} {H : Hp} {Q : VK} (q : te σ H fun x H1 => x = .ref a ∧ ∃ (fs : List (Str × V)) (v : V), H1 d = some (.xd fs) ∧ fs.lookup f = some v ∧ Q v H1) : tXp a d f te σ H Q := q
theorem roomS {k : Nat} {A : Around} {v : Option Value} (hr : Room k A) : RoomH k (A.mark v) := ⟨hr.dp, hr.un⟩
end X7
namespace U
open PySem PySem.Spec PyProof.Rows L2
section
variable {S : AS} {H0 H H' H3 H4 : Hp} {D E : Addr} {m n i j u : Nat}
/-- a list of whole numbers below n that grows at E -/
def CelInv (S : AS) (H : Hp) (E : Addr) (n i : Nat) (H' : Hp) : Prop := Ev S H H' ∧ ∃ ns : List Nat, ns.length = i ∧ (∀ t ∈ ns, t < n) ∧ H' E = some (.lst (ns.map vn))
/-- a list of such lists, each of m, that grows at D -/
def RowInv (S : AS) (H : Hp) (D : Addr) (m n i : Nat) (H' : Hp) : Prop := Ev S H H' ∧ ∃ (bs : List Addr) (rws : Rws), H' D = some (.lst (bs.map V.ref)) ∧ Paired (fun a r => Ints (fun b => S b ∨ b = D) H' a r) bs rws ∧ rws.length = i ∧ ∀ r ∈ rws, r.length = m ∧ ∀ t ∈ r, t < n
theorem CelInv.start (hS : Srcs S H) (hE : H E = none) : CelInv S H E n 0 (upd H E (.lst [])) := ⟨.laid hS hE, [], rfl, by simp, upd_same⟩
theorem CelInv.src (c : CelInv S H E n i H') : Srcs S H' := c.1.src
theorem CelInv.add (c : CelInv S H E n j H3) (hS : Srcs S H) (hE : H E = none) (e : Ev S H3 H4) (hu : u < n) (hj : j < 1000000) : ∃ acc, H4 E = some (.lst acc) ∧ acc.length < sizeLine ∧ CelInv S H E n (j + 1) (upd H4 E (.lst (acc ++ [vn u]))) := by
  obtain ⟨e3, ns, hns, hns2, hE3⟩ := c
  refine ⟨_, e.at (hS.notin hE) hE3, szlt (by rw [List.length_map]; omega), Ev.put hS (e3.trans e) hE, ns ++ [u], by simp [hns], fun z hz => ?_, by rw [upd_same, List.map_append]; rfl⟩
  rcases List.mem_append.mp hz with hz | hz
  · exact hns2 z hz
  · rw [List.mem_singleton.mp hz]; exact hu
theorem RowInv.start (hS : Srcs S H) (hD : H D = none) : RowInv S H D m n 0 (upd H D (.lst [])) := ⟨.laid hS hD, [], [], upd_same, .nil, rfl, by simp⟩
theorem RowInv.src (c : RowInv S H D m n i H') : Srcs S H' := c.1.src
theorem RowInv.step (c : RowInv S H D m n i H') (hS : Srcs S H) (hD : H D = none) (hE : H' E = none) (hc : CelInv S H' E n m H3) (hi : i < 1000000) : ∃ acc, H3 D = some (.lst acc) ∧ acc.length < sizeLine ∧ RowInv S H D m n (i + 1) (upd H3 D (.lst (acc ++ [.ref E]))) := by
  obtain ⟨e2', bs, rws, hD2, hbs, hlen, hrw⟩ := c
  obtain ⟨e3, ns, hns, hns2, hE3⟩ := hc
  have hED : E ≠ D := fun z => by rw [z, hD2] at hE; cases hE
  refine ⟨_, e3.at (hS.notin hD) hD2, szlt (by rw [List.length_map, hbs.length]; omega), Ev.put hS (e2'.trans e3) hD, bs ++ [E], rws ++ [ns], by rw [upd_same, List.map_append]; rfl, ?_, by simp [hlen], fun r hr => ?_⟩
  · have kk : Kp (fun b => S b ∨ b = D) H' (upd H3 D (.lst (bs.map V.ref ++ [V.ref E]))) := fun b u n z => by
      rw [upd_ne (fun y => n (.inr y))]
      exact e3.kp b u (fun y => n (.inl y)) z
    exact U.Paired.snoc (Paired.mapP hbs fun b r z => z.kp kk fun _ z => z) ⟨fun z => z.elim (e2'.src.notin hE) hED, false, by rw [upd_ne hED]; exact hE3⟩
  · rcases List.mem_append.mp hr with hr | hr
    · exact hrw r hr
    · rw [List.mem_singleton.mp hr]; exact ⟨hns, hns2⟩
/-- the rows are there: a machine's moves -/
theorem RowInv.done (c : RowInv S H D m n i H') (hS : Srcs S H) (hD : H D = none) : ∃ rws, Rows S H' D rws ∧ rws.length = i ∧ ∀ r ∈ rws, r.length = m ∧ ∀ t ∈ r, t < n := by
  obtain ⟨e2', bs, rws, hD2, hbs, hlen, hrw⟩ := c
  exact ⟨rws, ⟨hS.notin hD, false, bs, hD2, Paired.mapP hbs fun b r z => z.weak fun _ y => .inl y⟩, hlen, hrw⟩
theorem wf_of {rws : Rws} (hlen : rws.length = n) (h : ∀ r ∈ rws, r.length = m ∧ ∀ t ∈ r, t < n) (h0 : 0 < n) (h1 : n ≤ 60) (hm : m ≤ 3) : WF m rws := .of (by omega) (by omega) hm (fun r hr => (h r hr).1) (fun r hr t ht => by rw [hlen]; exact (h r hr).2 t ht)
end
def tInts : List Int → TA
  | [] => tNil
  | x :: r => tCons (tC (.int x)) (tInts r)
def tMenu : List (List Int) → TA
  | [] => tNil
  | x :: r => tCons (tTup (tInts x)) (tMenu r)
theorem tInts_read {σ : L2.St} : ∀ (xs : List Int) (H : Hp) (Q : List V → Hp → Prop), Q (xs.map V.int) H → tInts xs σ H Q
  | [], _, _, q => q
  | x :: r, H, Q, q => (show tCons (tC (.int x)) (tInts r) σ H Q from tInts_read r H (fun xs H2 => Q (.int x :: xs) H2) q)
theorem tMenu_read {σ : L2.St} : ∀ (L : List (List Int)) (H : Hp) (Q : List V → Hp → Prop), (∀ xs ∈ L, xs.length ≤ 1000) → (∀ as H', Same H H' → Paired (fun a (xs : List Int) => H a = none ∧ H' a = some (.tup (xs.map V.int))) as L → Q (as.map V.ref) H') → tMenu L σ H Q
  | [], H, Q, _, q => q [] H (Same.refl H) .nil
  | x :: r, H, Q, hl, q => (show tCons (tTup (tInts x)) (tMenu r) σ H Q from tInts_read x H _ ⟨szl (by rw [List.length_map]; have := hl x (List.mem_cons_self ..); omega), fun p hp =>
      tMenu_read r _ _ (fun xs hx => hl xs (List.mem_cons_of_mem _ hx)) fun as H' s h => q (p :: as) H' ((same_laid hp).trans s) (.cons ⟨hp, s _ _ upd_same⟩ (Paired.mapP h fun a xs z => ⟨same_free (same_laid hp) z.1, z.2⟩))⟩)
theorem menu_read {σ : L2.St} {H : Hp} {Q : VK} (L : List (List Int)) (hl : ∀ xs ∈ L, xs.length ≤ 1000) (hL : L.length ≤ 1000) (q : ∀ as p H', Same H H' → H p = none → H' p = some (.lst (as.map V.ref)) → Paired (fun a (xs : List Int) => H' a = some (.tup (xs.map V.int))) as L → Q (.ref p) H') : tLst (tMenu L) σ H Q := by
  refine i_lst (tMenu_read L H _ hl fun as H' s h => ⟨szl (by rw [List.length_map, h.length]; omega), fun p hp => ?_⟩)
  have s1 : Same H' (upd H' p (.lst (as.map V.ref))) := same_laid hp
  exact q as p _ (s.trans s1) (same_free s hp) upd_same (Paired.mapP h fun a xs z => s1 _ _ z.2)
def dStrsL (zs : List Str) : PyData := .list (zs.map PyData.str)
theorem dp_strs {K : PySem.W.Frag} {H : Hp} : ∀ zs : List Str, DpAll K H (zs.map V.str) (zs.map PyData.str)
  | [] => .nil
  | z :: zs => .cons (.str z) (dp_strs zs)
theorem eqvAll_strs : ∀ a b : List Str, PyData.eqvAll (a.map PyData.str) (b.map PyData.str) = decide (a = b)
  | [], [] => by simp [PyData.eqvAll]
  | [], _ :: _ => by simp [PyData.eqvAll]
  | _ :: _, [] => by simp [PyData.eqvAll]
  | x :: a, y :: b => by
    rw [List.map_cons, List.map_cons, PyData.eqvAll, eqvAll_strs a b, PyData.eqv]
    by_cases h : x = y
    · subst h; simp
    · simp [h]
theorem lay_strs : ∀ a : List Str, (∀ z ∈ a, PyData.strOk z = true) → PyData.canLayAll0 (a.map PyData.str) = true ∧ PyData.depthAll (a.map PyData.str) = 0
  | [], _ => by simp [PyData.canLayAll0, PyData.depthAll]
  | x :: a, hl => by
    have h := lay_strs a fun z hz => hl z (List.mem_cons_of_mem _ hz)
    rw [List.map_cons, PyData.canLayAll0, PyData.depthAll, h.1, h.2]
    simp [PyData.canLay0, PyData.depth, hl x (List.mem_cons_self ..)]
theorem i_eqStrsL {K : PySem.W.Frag} {H : Hp} {Q : VK} {p q : Addr} {a b : List Str} (hla : ∀ z ∈ a, PyData.strOk z = true) (hlb : ∀ z ∈ b, PyData.strOk z = true) (h : H p = some (.lst (a.map V.str))) (h' : H q = some (.lst (b.map V.str))) (k : Q (.bl (decide (a = b))) H) : rEqD K (.ref p) (.ref q) H Q := by
  have sh : ∀ c : List Str, (∀ z ∈ c, PyData.strOk z = true) → SeqAt.shaped (dStrsL c) = true := fun c hc => by
    have h := lay_strs c hc
    unfold SeqAt.shaped
    rw [dStrsL, PyData.canLay0, PyData.depth, h.1, h.2]
    decide
  exact ⟨dStrsL a, dStrsL b, .lst (SqL.of h) (dp_strs a), .lst (SqL.of h') (dp_strs b), sh a hla, sh b hlb, by rw [dStrsL, dStrsL, PyData.eqv, eqvAll_strs]; exact k⟩
theorem i_neStrsL {K : PySem.W.Frag} {H : Hp} {Q : VK} {p q : Addr} {a b : List Str} (hla : ∀ z ∈ a, PyData.strOk z = true) (hlb : ∀ z ∈ b, PyData.strOk z = true) (h : H p = some (.lst (a.map V.str))) (h' : H q = some (.lst (b.map V.str))) (k : Q (.bl (!decide (a = b))) H) : rNeD K (.ref p) (.ref q) H Q := by
  have sh : ∀ c : List Str, (∀ z ∈ c, PyData.strOk z = true) → SeqAt.shaped (dStrsL c) = true := fun c hc => by
    have h := lay_strs c hc
    unfold SeqAt.shaped
    rw [dStrsL, PyData.canLay0, PyData.depth, h.1, h.2]
    decide
  exact ⟨dStrsL a, dStrsL b, .lst (SqL.of h) (dp_strs a), .lst (SqL.of h') (dp_strs b), sh a hla, sh b hlb, by rw [dStrsL, dStrsL, PyData.eqv, eqvAll_strs]; exact k⟩
end U
namespace U
open PySem PySem.Spec PyProof.Rows L2
theorem menu_at {H : Hp} {as : List Addr} {L : List (List Int)} (h : Paired (fun a (xs : List Int) => H a = some (.tup (xs.map V.int))) as L) {d : Nat} (hd : d < L.length) : ∃ a xs, as[d]? = some a ∧ xs ∈ L ∧ H a = some (.tup (xs.map V.int)) := by
  obtain ⟨xs, hx⟩ : ∃ xs, L[d]? = some xs := ⟨_, List.getElem?_eq_getElem hd⟩
  obtain ⟨a, ha, hr⟩ := Paired.at1 h hx
  exact ⟨a, xs, ha, List.mem_of_getElem? hx, hr⟩
theorem Ev.tup {S : AS} {H H' : Hp} {a : Addr} {xs : List V} (hS : Srcs S H) (e : Ev S H H') (h : H a = some (.tup xs)) : H' a = some (.tup xs) := e.at (hS.nottup h) h
end U
namespace U
open PySem PySem.Spec PyProof.Rows L2
/-- an ascending list of whole numbers that grows at G -/
def FilInv (S : AS) (H : Hp) (G : Addr) (i : Nat) (H' : Hp) : Prop := Ev S H H' ∧ ∃ gd : List Nat, H' G = some (.lst (gd.map vn)) ∧ gd.Pairwise (· < ·) ∧ (∀ x ∈ gd, x < i) ∧ gd.length ≤ i
section
variable {S : AS} {H H' H3 : Hp} {G : Addr} {i : Nat}
theorem FilInv.start (hS : Srcs S H) (hG : H G = none) : FilInv S H G 0 (upd H G (.lst [])) := ⟨.laid hS hG, [], upd_same, .nil, by simp, Nat.le_refl _⟩
theorem FilInv.src (z : FilInv S H G i H') : Srcs S H' := z.1.src
theorem FilInv.add (z : FilInv S H G i H') (hS : Srcs S H) (hG : H G = none) (e3 : Ev S H' H3) (hi : i < 1000000) : ∃ acc, H3 G = some (.lst acc) ∧ acc.length < sizeLine ∧ FilInv S H G (i + 1) (upd H3 G (.lst (acc ++ [vn i]))) := by
  obtain ⟨e2, gd, hG2, hp, hlt, hle⟩ := z
  refine ⟨_, e3.at (hS.notin hG) hG2, szlt (by rw [List.length_map]; omega), Ev.put hS (e2.trans e3) hG, gd ++ [i], by rw [upd_same, List.map_append]; rfl, ?_, fun y hy => ?_, by simp; omega⟩
  · rw [List.pairwise_append]
    exact ⟨hp, by simp, fun y hy z hz => by rw [List.mem_singleton.mp hz]; exact hlt y hy⟩
  · rcases List.mem_append.mp hy with hy | hy
    · have := hlt y hy; omega
    · rw [List.mem_singleton.mp hy]; omega
theorem FilInv.skip (z : FilInv S H G i H') (hS : Srcs S H) (hG : H G = none) (e3 : Ev S H' H3) : FilInv S H G (i + 1) H3 := by
  obtain ⟨e2, gd, hG2, hp, hlt, hle⟩ := z
  exact ⟨e2.trans e3, gd, e3.at (hS.notin hG) hG2, hp, fun y hy => by have := hlt y hy; omega, by omega⟩
theorem FilInv.done (z : FilInv S H G i H') (hS : Srcs S H) (hG : H G = none) : ∃ gd, Ints S H' G gd ∧ GOK i gd := by
  obtain ⟨e2, gd, hG2, hp, hlt, hle⟩ := z
  exact ⟨gd, ⟨hS.notin hG, false, hG2⟩, hp, hlt⟩
end
theorem GOK.up {n k : Nat} {gd : List Nat} (g : GOK n gd) (h : n ≤ k) : GOK k gd := ⟨g.inc, fun x hx => Nat.lt_of_lt_of_le (g.lt x hx) h⟩
theorem Mach.srcs {S : AS} {H H' : Hp} {p : Addr} {rs : Rws} {gd : List Nat} (h : Mach (Old H) H' p rs gd) (hS : Srcs S H) : Mach S H' p rs gd := h.weak fun _ z => hS.old z
end U
namespace X
open PySem PySem.Spec PyProof.Rows L2 C8 U
open X7
def top (i : Nat) : Stmt := PySem.Challenge.pw_untoldlots_k07_reader_kept.main.body.getD i (.Pass ⟨0, 0, 0, 0⟩)
def SMALL : Str := "abcdefghijklmnopqrstuvwxyz"
/-- the error classes -/
structure Er where
  LotsError : Addr
  WrongThing : Addr
  BadAlphabet : Addr
  BadLetter : Addr
  BadNumber : Addr
  WrongItem : Addr
  BadText : Addr
  BadMoves : Addr
  BadGood : Addr
  BadLots : Addr
  BadTexts : Addr
  TooMany : Addr
  Unlike : Addr
  NoName : Addr
/-- what the written part says of an error class at E that holds its __init__: b.. whether it is of a class -/
structure ErF (K : PySem.W.Frag) (r : Er) (E : Addr) (bT bI bA bM bG bX : Bool) : Prop where
  ex : PySem.W.exmOne K (.ref E) (.ref r.LotsError) = some true
  xc : ExcC K E
  xf : XfC K E
  nT : PySem.W.findIn K (.ref E) "thing" = some none
  nA : PySem.W.findIn K (.ref E) "at" = some none
  kv : PySem.W.kitOne K (.ref E) (.type "ValueError") = some true
  kT : PySem.W.kitOne K (.ref E) (.ref r.WrongThing) = some bT
  kI : PySem.W.kitOne K (.ref E) (.ref r.WrongItem) = some bI
  kA : PySem.W.kitOne K (.ref E) (.ref r.BadAlphabet) = some bA
  kM : PySem.W.kitOne K (.ref E) (.ref r.BadMoves) = some bM
  kG : PySem.W.kitOne K (.ref E) (.ref r.BadGood) = some bG
  kX : PySem.W.kitOne K (.ref E) (.ref r.BadText) = some bX
  ko : PySem.W.kitAny K (.ref E) [.ref r.BadLetter, .ref r.BadLots, .ref r.BadNumber, .ref r.BadTexts, .ref r.NoName, .ref r.TooMany, .ref r.Unlike] = some false
/-- what the top leaves -/
structure Txt (K : PySem.W.Frag) (mg : Str → Option Value) (C : Addr) (r : Er) : Prop where
  b_int : mg "int" = none
  b_len : mg "len" = none
  b_abs : mg "abs" = none
  b_range : mg "range" = none
  b_tuple : mg "tuple" = none
  b_list : mg "list" = none
  b_isinstance : mg "isinstance" = none
  b_all : mg "all" = none
  b_any : mg "any" = none
  b_enumerate : mg "enumerate" = none
  b_min : mg "min" = none
  b_str : mg "str" = none
  b_bool : mg "bool" = none
  b_set : mg "set" = none
  b_repr : mg "repr" = none
  b_sum : mg "sum" = none
  b_sorted : mg "sorted" = none
  b_ValueError : mg "ValueError" = none
  b_super : mg "super" = none
  c_MOST_ROOMS : ∃ u, mg "MOST_ROOMS" = some u ∧ RelV (.int 60) u
  c_TEXT_LETTERS : ∃ u, mg "TEXT_LETTERS" = some u ∧ RelV (.int 40) u
  c_SMALL : ∃ u, mg "SMALL" = some u ∧ RelV (.str SMALL) u
  cl : Cls K C
  nA : NoAttr K C "alphabet"
  nM : NoAttr K C "moves"
  nG : NoAttr K C "good"
  mg_Reader : mg "Reader" = some (.ref C)
  ins : InsC K C
  ne : PySem.W.findIn K (.ref C) "__ne__" = some (some (.builtin "object.__ne__"))
  mo : PySem.W.mroIn K C (.type "object") = some true
  kl : PySem.W.kitOne K (.ref C) (.type "list") = some false
  sT : PySem.W.subIn K (.type "tuple") (.ref C) = some false
  sS : PySem.W.subIn K (.type "str") (.ref C) = some false
  kT : PySem.W.kitOne K (.type "tuple") (.ref C) = some false
  kS : PySem.W.kitOne K (.type "str") (.ref C) = some false
  mg_LotsError : mg "LotsError" = some (.ref r.LotsError)
  mg_WrongThing : mg "WrongThing" = some (.ref r.WrongThing)
  mg_BadAlphabet : mg "BadAlphabet" = some (.ref r.BadAlphabet)
  mg_BadLetter : mg "BadLetter" = some (.ref r.BadLetter)
  mg_BadNumber : mg "BadNumber" = some (.ref r.BadNumber)
  mg_WrongItem : mg "WrongItem" = some (.ref r.WrongItem)
  mg_BadText : mg "BadText" = some (.ref r.BadText)
  mg_BadMoves : mg "BadMoves" = some (.ref r.BadMoves)
  mg_BadGood : mg "BadGood" = some (.ref r.BadGood)
  mg_BadLots : mg "BadLots" = some (.ref r.BadLots)
  mg_BadTexts : mg "BadTexts" = some (.ref r.BadTexts)
  mg_TooMany : mg "TooMany" = some (.ref r.TooMany)
  mg_Unlike : mg "Unlike" = some (.ref r.Unlike)
  mg_NoName : mg "NoName" = some (.ref r.NoName)
  eA : ErF K r r.BadAlphabet true false true false false false
  eM : ErF K r r.BadMoves false true false true false false
  eG : ErF K r r.BadGood false true false false true false
  eX : ErF K r r.BadText false true false false false true
end X
namespace U
open PySem PySem.Spec PyProof.Rows L2
/-- the number of a word over m letters among all, by length, then by letters -/
def wnum (m : Nat) (w : List Nat) : Nat := w.foldl (fun n a => n * m + a + 1) 0
def Ok (m : Nat) (w : List Nat) : Prop := ∀ a ∈ w, a < m
theorem wnum_snoc (m : Nat) (w : List Nat) (a : Nat) : wnum m (w ++ [a]) = wnum m w * m + a + 1 := by simp [wnum]
theorem Ok.snoc {m : Nat} {w : List Nat} {a : Nat} (h : Ok m w) (ha : a < m) : Ok m (w ++ [a]) := fun b hb => by
  rcases List.mem_append.mp hb with hb | hb
  · exact h b hb
  · rw [List.mem_singleton.mp hb]; exact ha
theorem Ok.init {m : Nat} {w : List Nat} {a : Nat} (h : Ok m (w ++ [a])) : Ok m w ∧ a < m := ⟨fun b hb => h b (List.mem_append_left _ hb), h a (by simp)⟩
theorem snoc_cases (w : List Nat) : w = [] ∨ ∃ u a, w = u ++ [a] := by
  rcases List.eq_nil_or_concat w with h | ⟨u, a, h⟩
  · exact .inl h
  · exact .inr ⟨u, a, by rw [h, List.concat_eq_append]⟩
theorem divm {m n a n' a' : Nat} (ha : a < m) (ha' : a' < m) (h : n * m + a = n' * m + a') : n = n' ∧ a = a' := by
  have hm : 0 < m := by omega
  have h1 : (n * m + a) / m = n := by rw [Nat.mul_comm, Nat.mul_add_div hm, Nat.div_eq_of_lt ha]; rfl
  have h2 : (n' * m + a') / m = n' := by rw [Nat.mul_comm, Nat.mul_add_div hm, Nat.div_eq_of_lt ha']; rfl
  rw [h] at h1
  have e : n = n' := h1.symm.trans h2
  subst e
  exact ⟨rfl, by omega⟩
theorem wnum_inj {m : Nat} : ∀ (k : Nat) {u v : List Nat}, u.length = k → Ok m u → Ok m v → wnum m u = wnum m v → u = v
  | 0, u, v, hk, hu, hv, e => by
    have : u = [] := List.length_eq_zero_iff.mp hk
    subst this
    rcases snoc_cases v with rfl | ⟨v', a, rfl⟩
    · rfl
    · rw [wnum_snoc] at e
      simp [wnum] at e
  | k + 1, u, v, hk, hu, hv, e => by
    rcases snoc_cases u with rfl | ⟨u', a, rfl⟩
    · simp at hk
    · rcases snoc_cases v with rfl | ⟨v', b, rfl⟩
      · rw [wnum_snoc] at e
        simp [wnum] at e
      · rw [wnum_snoc, wnum_snoc] at e
        obtain ⟨hu', ha⟩ := hu.init
        obtain ⟨hv', hb⟩ := hv.init
        obtain ⟨e1, e2⟩ := divm ha hb (show wnum m u' * m + a = wnum m v' * m + b by omega)
        rw [wnum_inj k (by simp at hk; exact hk) hu' hv' e1, e2]
theorem Ok.inj {m : Nat} {u v : List Nat} (hu : Ok m u) (hv : Ok m v) (e : wnum m u = wnum m v) : u = v := wnum_inj _ rfl hu hv e
/-- the least word of a set -/
def LeastW (m : Nat) (P : List Nat → Prop) (r : Option (List Nat)) : Prop := (r = none ∧ ∀ u, Ok m u → ¬ P u) ∨ ∃ w, r = some w ∧ Ok m w ∧ P w ∧ ∀ u, Ok m u → P u → wnum m w ≤ wnum m u
theorem LeastW.uniq {m : Nat} {P Q : List Nat → Prop} {r r' : Option (List Nat)} (h : LeastW m P r) (h' : LeastW m Q r') (e : ∀ u, Ok m u → (P u ↔ Q u)) : r = r' := by
  rcases h with ⟨rfl, h⟩ | ⟨w, rfl, ow, pw, lw⟩
  · rcases h' with ⟨rfl, _⟩ | ⟨w', rfl, ow', pw', _⟩
    · rfl
    · exact absurd ((e _ ow').mpr pw') (h _ ow')
  · rcases h' with ⟨rfl, h'⟩ | ⟨w', rfl, ow', pw', lw'⟩
    · exact absurd ((e _ ow).mp pw) (h' _ ow)
    · rw [ow.inj ow' (Nat.le_antisymm (lw _ ow' ((e _ ow').mpr pw')) (lw' _ ow ((e _ ow).mp pw)))]
section
variable {α : Type} [DecidableEq α]
/-- places with the words to them: a word's neighbours are put behind -/
def addW (st : α → Nat → α) (x : α) (w : List Nat) (l : List (α × List Nat)) (a : Nat) : List (α × List Nat) := if st x a ∈ l.map Prod.fst then l else l ++ [(st x a, w ++ [a])]
def addsW (st : α → Nat → α) (x : α) (w : List Nat) (l : List (α × List Nat)) (n : Nat) : List (α × List Nat) := (List.range n).foldl (addW st x w) l
theorem addsW_succ (st : α → Nat → α) (x : α) (w : List Nat) (l : List (α × List Nat)) (n : Nat) : addsW st x w l (n + 1) = addW st x w (addsW st x w l n) n := by simp [addsW, List.range_succ]
def gW (m : Nat) (st : α → Nat → α) (s : α) : Nat → List (α × List Nat)
  | 0 => [(s, [])]
  | k + 1 => addsW st ((gW m st s k).getD k (s, [])).1 ((gW m st s k).getD k (s, [])).2 (gW m st s k) m
theorem addW_pre (st : α → Nat → α) (x : α) (w : List Nat) (l : List (α × List Nat)) (a : Nat) : ∃ z, addW st x w l a = l ++ z := by
  unfold addW
  split
  · exact ⟨[], by simp⟩
  · exact ⟨_, rfl⟩
theorem addsW_pre (st : α → Nat → α) (x : α) (w : List Nat) (l : List (α × List Nat)) : ∀ n, ∃ z, addsW st x w l n = l ++ z
  | 0 => ⟨[], by simp [addsW]⟩
  | n + 1 => by
    obtain ⟨z, e⟩ := addsW_pre st x w l n
    obtain ⟨z2, e2⟩ := addW_pre st x w (addsW st x w l n) n
    exact ⟨z ++ z2, by rw [addsW_succ, e2, e, List.append_assoc]⟩
theorem addW_map (st : α → Nat → α) (x : α) (w : List Nat) (l : List (α × List Nat)) (a : Nat) : (addW st x w l a).map Prod.fst = addN (l.map Prod.fst) (st x a) := by
  unfold addW addN
  split <;> simp
theorem addsW_map (st : α → Nat → α) (x : α) (w : List Nat) (l : List (α × List Nat)) : ∀ n, (addsW st x w l n).map Prod.fst = addsN (l.map Prod.fst) ((List.range n).map (st x))
  | 0 => rfl
  | n + 1 => by rw [addsW_succ, addW_map, addsW_map st x w l n, List.range_succ, List.map_append, List.map_singleton, addsN_snoc]
variable {m : Nat} {st : α → Nat → α} {s : α}
/-- the places are those met in order -/
theorem gW_map : ∀ k, (gW m st s k).map Prod.fst = gAt (fun x => (List.range m).map (st x)) s k
  | 0 => rfl
  | k + 1 => by
    have e : ((gW m st s k).getD k (s, [])).1 = (gAt (fun x => (List.range m).map (st x)) s k).getD k s := by
      rw [← gW_map k, List.getD_eq_getElem?_getD, List.getD_eq_getElem?_getD, List.getElem?_map]
      cases (gW m st s k)[k]? <;> rfl
    show (addsW _ _ _ _ _).map Prod.fst = addsN _ _
    rw [addsW_map, gW_map k, e]
theorem gW_len (k : Nat) : (gW m st s k).length = (gAt (fun x => (List.range m).map (st x)) s k).length := by rw [← gW_map k, List.length_map]
theorem gW_at {k : Nat} {x : α} {w : List Nat} (h : (gW m st s k)[k]? = some (x, w)) : gW m st s (k + 1) = addsW st x w (gW m st s k) m := by
  show addsW _ _ _ _ _ = _
  rw [List.getD_eq_getElem?_getD, h] <;> rfl
theorem gW_mono (k : Nat) : ∀ j, ∃ z, gW m st s (k + j) = gW m st s k ++ z
  | 0 => ⟨[], by simp⟩
  | j + 1 => by
    obtain ⟨z1, e1⟩ := gW_mono k j
    obtain ⟨z2, e2⟩ := addsW_pre st ((gW m st s (k + j)).getD (k + j) (s, [])).1 ((gW m st s (k + j)).getD (k + j) (s, [])).2 (gW m st s (k + j)) m
    exact ⟨z1 ++ z2, by rw [show k + (j + 1) = k + j + 1 from rfl]; show addsW _ _ _ _ _ = _; rw [e2, e1, List.append_assoc]⟩
theorem gW_up {k l q : Nat} {p : α × List Nat} (h : (gW m st s k)[q]? = some p) (hl : k ≤ l) : (gW m st s l)[q]? = some p := by
  obtain ⟨j, rfl⟩ : ∃ j, l = k + j := ⟨l - k, by omega⟩
  obtain ⟨z, e⟩ := gW_mono (m := m) (st := st) (s := s) k j
  rw [e, List.getElem?_append_left (List.getElem?_eq_some_iff.mp h).1]
  exact h
/-- what is known of a list of places with words -/
structure Wds (m : Nat) (st : α → Nat → α) (s : α) (l : List (α × List Nat)) (N : Nat) : Prop where
  ok : ∀ p ∈ l, Ok m p.2 ∧ gRun st s p.2 = p.1
  lg : ∀ (i : Nat) (p : α × List Nat), l[i]? = some p → p.2.length ≤ i
  inc : l.Pairwise fun p q => wnum m p.2 < wnum m q.2
  bd : ∀ p ∈ l, wnum m p.2 < N
  cov : ∀ u, Ok m u → wnum m u < N → ∃ p ∈ l, p.1 = gRun st s u ∧ wnum m p.2 ≤ wnum m u
theorem gRun_snoc (st : α → Nat → α) (x : α) (w : List Nat) (a : Nat) : gRun st x (w ++ [a]) = st (gRun st x w) a := by simp [gRun]
theorem Wds.add {l : List (α × List Nat)} {x : α} {w : List Nat} {a : Nat} (h : Wds m st s l (wnum m w * m + a + 1)) (hw : Ok m w) (hx : gRun st s w = x) (hl : w.length < l.length) (ha : a < m) : Wds m st s (addW st x w l a) (wnum m w * m + a + 2) := by
  have hn : wnum m (w ++ [a]) = wnum m w * m + a + 1 := wnum_snoc m w a
  have hr : gRun st s (w ++ [a]) = st x a := by rw [gRun_snoc, hx]
  have cov' : ∀ l' : List (α × List Nat), (∀ p ∈ l, p ∈ l') → (∃ p ∈ l', p.1 = st x a ∧ wnum m p.2 ≤ wnum m w * m + a + 1) → ∀ u, Ok m u → wnum m u < wnum m w * m + a + 2 → ∃ p ∈ l', p.1 = gRun st s u ∧ wnum m p.2 ≤ wnum m u := fun l' hs hp u hu hlt => by
    by_cases e : wnum m u < wnum m w * m + a + 1
    · obtain ⟨p, h1, h2⟩ := h.cov u hu e
      exact ⟨p, hs p h1, h2⟩
    · have e2 : wnum m u = wnum m (w ++ [a]) := by omega
      have e3 := hu.inj (hw.snoc ha) e2
      subst e3
      obtain ⟨p, h1, h2, h3⟩ := hp
      exact ⟨p, h1, by rw [h2, hr], by omega⟩
  unfold addW
  by_cases hm : st x a ∈ l.map Prod.fst
  · rw [if_pos hm]
    obtain ⟨p, h1, h2⟩ := List.mem_map.mp hm
    exact ⟨h.ok, h.lg, h.inc, fun p hp => Nat.lt_succ_of_lt (h.bd p hp), cov' l (fun _ z => z) ⟨p, h1, h2, Nat.le_of_lt (h.bd p h1)⟩⟩
  · rw [if_neg hm]
    refine ⟨fun p hp => ?_, fun i p hp => ?_, ?_, fun p hp => ?_, cov' _ (fun p hp => List.mem_append_left _ hp) ⟨_, List.mem_append_right _ (List.mem_singleton.mpr rfl), rfl, by rw [hn] <;> omega⟩⟩
    · rcases List.mem_append.mp hp with hp | hp
      · exact h.ok p hp
      · rw [List.mem_singleton.mp hp]
        exact ⟨hw.snoc ha, hr⟩
    · rcases Nat.lt_or_ge i l.length with z | z
      · rw [List.getElem?_append_left z] at hp
        exact h.lg i p hp
      · rw [List.getElem?_append_right z] at hp
        have hz : i - l.length = 0 := by
          have := (List.getElem?_eq_some_iff.mp hp).1
          simp at this
          omega
        rw [hz] at hp
        cases hp
        rw [List.length_append]
        show w.length + 1 ≤ i
        omega
    · rw [List.pairwise_append]
      refine ⟨h.inc, by simp, fun p hp q hq => ?_⟩
      rw [List.mem_singleton.mp hq, hn]
      exact h.bd p hp
    · rcases List.mem_append.mp hp with hp | hp
      · exact Nat.lt_succ_of_lt (h.bd p hp)
      · rw [List.mem_singleton.mp hp]
        show wnum m (w ++ [a]) < _
        omega
theorem Wds.adds {l : List (α × List Nat)} {x : α} {w : List Nat} (h : Wds m st s l (wnum m w * m + 1)) (hw : Ok m w) (hx : gRun st s w = x) (hl : w.length < l.length) : ∀ n, n ≤ m → Wds m st s (addsW st x w l n) (wnum m w * m + n + 1)
  | 0, _ => h
  | n + 1, hn => by
    rw [addsW_succ]
    obtain ⟨z, e⟩ := addsW_pre st x w l n
    exact (h.adds hw hx hl n (by omega)).add hw hx (by rw [e, List.length_append]; omega) (by omega)
theorem inc_lt {l : List (α × List Nat)} (h : l.Pairwise fun p q => wnum m p.2 < wnum m q.2) {i j : Nat} {p q : α × List Nat} (hi : l[i]? = some p) (hj : l[j]? = some q) (hn : wnum m p.2 < wnum m q.2) : i < j := by
  rcases Nat.lt_trichotomy i j with z | z | z
  · exact z
  · subst z
    rw [hi] at hj
    cases hj
    omega
  · obtain ⟨h1, e1⟩ := List.getElem?_eq_some_iff.mp hi
    obtain ⟨h2, e2⟩ := List.getElem?_eq_some_iff.mp hj
    have := List.pairwise_iff_getElem.mp h j i h2 h1 z
    rw [e1, e2] at this
    omega
/-- so far as places were gone through one at a time -/
theorem gW_ok (hm : 0 < m) (k : Nat) : (∀ q, q < k → q < (gW m st s q).length) → ∀ p, (gW m st s k)[k]? = some p → Wds m st s (gW m st s k) (wnum m p.2 * m + 1) ∧ p.2.length < (gW m st s k).length ∧ Ok m p.2 ∧ gRun st s p.2 = p.1 := by
  induction k using Nat.strongRecOn with
  | ind k ih =>
  intro hq p hp
  cases k with
  | zero =>
    cases hp
    refine ⟨⟨fun p hp => ?_, fun i p hp => ?_, by simp [gW], fun p hp => ?_, fun u hu hlt => ?_⟩, by show 0 < 1; decide, fun a h => by simp at h, rfl⟩
    · rw [List.mem_singleton.mp hp]
      exact ⟨fun a h => by simp at h, rfl⟩
    · have hi := (List.getElem?_eq_some_iff.mp hp).1
      have hi : i < 1 := hi
      have hi : i = 0 := by omega
      subst hi
      cases hp
      exact Nat.le_refl _
    · rw [List.mem_singleton.mp hp]
      show wnum m [] < _
      simp [wnum]
    · have h0 : wnum m u = 0 := by
        have hlt : wnum m u < 0 * m + 1 := hlt
        omega
      rcases snoc_cases u with rfl | ⟨v, a, rfl⟩
      · exact ⟨_, List.mem_singleton.mpr rfl, rfl, Nat.le_refl _⟩
      · rw [wnum_snoc] at h0
        omega
  | succ k =>
    obtain ⟨⟨x, w⟩, hx⟩ : ∃ y, (gW m st s k)[k]? = some y := ⟨_, List.getElem?_eq_getElem (hq k (Nat.lt_succ_self k))⟩
    obtain ⟨W, hlen, how, hrw⟩ := ih k (Nat.lt_succ_self k) (fun q h => hq q (Nat.lt_succ_of_lt h)) _ hx
    have W2 : Wds m st s (addsW st x w (gW m st s k) m) (wnum m w * m + m + 1) := W.adds how hrw hlen m (Nat.le_refl _)
    rw [← gW_at hx] at W2
    have hpm := List.mem_of_getElem? hp
    obtain ⟨ho, hr⟩ := W2.ok p hpm
    have hxk := gW_up hx (Nat.le_succ k)
    have hlt : wnum m w < wnum m p.2 := by
      obtain ⟨h1, e1⟩ := List.getElem?_eq_some_iff.mp hxk
      obtain ⟨h2, e2⟩ := List.getElem?_eq_some_iff.mp hp
      have := List.pairwise_iff_getElem.mp W2.inc k (k + 1) h1 h2 (Nat.lt_succ_self k)
      rw [e1, e2] at this
      exact this
    have hmul : wnum m w * m + m ≤ wnum m p.2 * m := by
      have := Nat.mul_le_mul_right m (show wnum m w + 1 ≤ wnum m p.2 from hlt)
      rw [Nat.add_mul, Nat.one_mul] at this
      exact this
    have hbp := W2.bd p hpm
    refine ⟨⟨W2.ok, W2.lg, W2.inc, fun q hqm => Nat.lt_of_lt_of_le (W2.bd q hqm) (by omega), fun u hu hlt' => ?_⟩, Nat.lt_of_le_of_lt (W2.lg _ _ hp) (List.getElem?_eq_some_iff.mp hp).1, ho, hr⟩
    rcases snoc_cases u with rfl | ⟨v, b, rfl⟩
    · exact W2.cov [] hu (by simp [wnum])
    · obtain ⟨hv, hb⟩ := hu.init
      rw [wnum_snoc] at hlt'
      have hv2 : wnum m v < wnum m p.2 := by
        rcases Nat.lt_or_ge (wnum m v) (wnum m p.2) with z | z
        · exact z
        · have := Nat.mul_le_mul_right m z
          omega
      obtain ⟨p', hp', e', l'⟩ := W2.cov v hv (by omega)
      obtain ⟨j, hj⟩ := List.mem_iff_getElem?.mp hp'
      have hjk := inc_lt W2.inc hj hp (by omega)
      have hjj : (gW m st s j)[j]? = some p' := by
        have hjl : j < (gW m st s j).length := hq j hjk
        have := gW_up (l := k + 1) (List.getElem?_eq_getElem hjl) (by omega)
        rw [hj] at this
        rw [List.getElem?_eq_getElem hjl, ← this]
      obtain ⟨W3, hlen3, how3, hrw3⟩ := ih j hjk (fun q h => hq q (by omega)) _ hjj
      have W4 := W3.adds how3 hrw3 hlen3 m (Nat.le_refl _)
      obtain ⟨x', w'⟩ := p'
      rw [← gW_at hjj] at W4
      have hle : wnum m w' * m ≤ wnum m v * m := Nat.mul_le_mul_right m l'
      obtain ⟨q, hq1, hq2, hq3⟩ := W4.cov (w' ++ [b]) (how3.snoc hb) (by rw [wnum_snoc]; show _ < wnum m w' * m + m + 1; omega)
      obtain ⟨i, hi⟩ := List.mem_iff_getElem?.mp hq1
      refine ⟨q, List.mem_of_getElem? (gW_up hi (by omega)), ?_, ?_⟩
      · rw [hq2, gRun_snoc, gRun_snoc, hrw3]
        show st x' b = _
        rw [show x' = gRun st s v from e']
      · rw [wnum_snoc] at hq3 ⊢
        omega
/-- the search that asks a place when it is gone through: the first one that is wanted has the least word -/
theorem gW_least (hm : 0 < m) {f : α → Bool} {k : Nat} (hq : ∀ q, q < k → q < (gW m st s q).length) {x : α} {w : List Nat} (hp : (gW m st s k)[k]? = some (x, w)) (hf : f x = true) (hn : ∀ q, q < k → ∀ y v, (gW m st s k)[q]? = some (y, v) → f y = false) : LeastW m (fun u => f (gRun st s u) = true) (some w) := by
  obtain ⟨W, hlen, how, hrw⟩ := gW_ok hm k hq _ hp
  refine .inr ⟨w, rfl, how, by show f (gRun st s w) = true; rw [show gRun st s w = x from hrw]; exact hf, fun u hu hP => ?_⟩
  rcases Nat.lt_or_ge (wnum m u) (wnum m w) with z | z
  · obtain ⟨p, h1, h2, h3⟩ := W.cov u hu (by
      show _ < wnum m w * m + 1
      have := Nat.le_mul_of_pos_right (wnum m w) hm
      omega)
    obtain ⟨j, hj⟩ := List.mem_iff_getElem?.mp h1
    have := inc_lt W.inc hj hp (by show _ < wnum m w; omega)
    have := hn j this p.1 p.2 hj
    rw [h2] at this
    have hP : f (gRun st s u) = true := hP
    rw [this] at hP
    cases hP
  · exact z
/-- the search that asks a place when it is met -/
theorem gW_met (hm : 0 < m) {f : α → Bool} {k : Nat} (hq : ∀ q, q < k → q < (gW m st s q).length) {x : α} {w : List Nat} (hp : (gW m st s k)[k]? = some (x, w)) {a : Nat} (ha : a < m) (hf : f (st x a) = true) (hn : ∀ p ∈ addsW st x w (gW m st s k) a, f p.1 = false) : LeastW m (fun u => f (gRun st s u) = true) (some (w ++ [a])) := by
  obtain ⟨W, hlen, how, hrw⟩ := gW_ok hm k hq _ hp
  have W2 : Wds m st s (addsW st x w (gW m st s k) a) (wnum m w * m + a + 1) := W.adds how hrw hlen a (by omega)
  refine .inr ⟨w ++ [a], rfl, how.snoc ha, by show f (gRun st s (w ++ [a])) = true; rw [gRun_snoc, show gRun st s w = x from hrw]; exact hf, fun u hu hP => ?_⟩
  rcases Nat.lt_or_ge (wnum m u) (wnum m (w ++ [a])) with z | z
  · rw [wnum_snoc] at z
    obtain ⟨p, h1, h2, h3⟩ := W2.cov u hu z
    have := hn p h1
    rw [h2] at this
    have hP : f (gRun st s u) = true := hP
    rw [this] at hP
    cases hP
  · exact z
/-- all were gone through: none is wanted -/
theorem gW_none {f : α → Bool} {k : Nat} (d : Done (fun x => (List.range m).map (st x)) s k) (hn : ∀ p ∈ gW m st s k, f p.1 = false) : LeastW m (fun u => f (gRun st s u) = true) none := by
  refine .inl ⟨rfl, fun u hu hP => ?_⟩
  have h := (gRun_eq (m := m) d (st := st) (fun x _ a ha => by rw [List.getElem?_map, List.getElem?_range ha] <;> rfl) u s (g_has k) hu).1
  rw [← gW_map k] at h
  obtain ⟨p, hp, e⟩ := List.mem_map.mp h
  have := hn p hp
  rw [e, hP] at this
  cases this
end
end U
namespace U
open PySem PySem.Spec PyProof.Rows L2
theorem LeastW.congr {m : Nat} {P Q : List Nat → Prop} {r : Option (List Nat)} (h : LeastW m P r) (e : ∀ u, Ok m u → (P u ↔ Q u)) : LeastW m Q r := by
  rcases h with ⟨rfl, h⟩ | ⟨w, rfl, ow, pw, lw⟩
  · exact .inl ⟨rfl, fun u hu q => h u hu ((e u hu).mpr q)⟩
  · exact .inr ⟨w, rfl, ow, (e w ow).mp pw, fun u hu q => lw u hu ((e u hu).mpr q)⟩
/-- the text of a word -/
def spl (al w : List Nat) : List Nat := w.map fun a => al.getD a 0
def txtO (al : List Nat) : Option (List Nat) → V
  | none => .non
  | some w => .str (SX.S (spl al w))
end U
namespace U
open PySem PySem.Spec PyProof.Rows L2
section
variable {K : PySem.W.Frag} {H H' : Hp} {Q : VK}
theorem i_snocT {b T : Addr} {xs : List V} {y : V} (hb : H b = some (.tup xs)) (hT : H T = some (.tup [y])) (hl : xs.length ≤ 1000000) (q : ∀ p H', Same H H' → H' p = some (.tup (xs ++ [y])) → (H p = none ∨ p = T) → Q (.ref p) H') : rCatA K (.ref b) (.ref T) H Q := by
  refine ⟨b, T, xs, [y], rfl, rfl, SqT.of hb, SqT.of hT, szl (by show xs.length + 1 ≤ _; omega), fun e => ?_, fun _ e => (by cases e), fun _ _ p hp => q p _ (same_laid hp) upd_same (.inl hp)⟩
  subst e
  exact q T H (Same.refl H) hT (.inr rfl)
/-- rooms with the words to them, as tuples -/
def LvR (H : Hp) (as : List Addr) (l : List (Nat × List Nat)) : Prop := Paired (fun a (p : Nat × List Nat) => ∃ b, H a = some (.tup [vn p.1, .ref b]) ∧ H b = some (.tup (p.2.map vn))) as l
theorem LvR.same {as : List Addr} {l : List (Nat × List Nat)} (h : LvR H as l) (s : Same H H') : LvR H' as l := Paired.mapP h fun a p ⟨b, h1, h2⟩ => ⟨b, s _ _ h1, s _ _ h2⟩
theorem LvR.upd {as : List Addr} {l : List (Nat × List Nat)} {D : Addr} {o : HO} (h : LvR H as l) (hn : ∀ vs, H D ≠ some (.tup vs)) : LvR (upd H D o) as l := Paired.mapP h fun a p ⟨b, h1, h2⟩ => ⟨b, by rw [upd_ne (fun z => hn _ (z ▸ h1))]; exact h1, by rw [upd_ne (fun z => hn _ (z ▸ h2))]; exact h2⟩
end
section
variable {J : Rws} {m : Nat}
theorem stp_row (w : WFB m J) {r : Nat} (h : r < J.length) : (List.range m).map (stp J r) = row J r := by
  refine List.ext_getElem? fun i => ?_
  rw [List.getElem?_map]
  by_cases hi : i < m
  · rw [List.getElem?_range hi, w.stp_at h hi] <;> rfl
  · rw [List.getElem?_eq_none (by rw [List.length_range]; omega), List.getElem?_eq_none (by rw [w.row_len h]; omega)] <;> rfl
theorem gW_lt (w : WFB m J) (k : Nat) : ∀ p ∈ gW m (stp J) 0 k, p.1 < J.length := fun p hp => by
  have h : p.1 ∈ gAt (fun x => (List.range m).map (stp J x)) 0 k := by
    rw [← gW_map k]
    exact List.mem_map_of_mem hp
  exact g_inv (P := fun x => x < J.length) w.pos (fun x hx y hy => by
    obtain ⟨a, ha, rfl⟩ := List.mem_map.mp hy
    exact w.stp_lt hx (List.mem_range.mp ha)) k _ h
theorem gW_nd (k : Nat) : ((gW m (stp J) 0 k).map Prod.fst).Nodup := by
  rw [gW_map k]
  exact g_nd k
theorem gW_le (w : WFB m J) (k : Nat) : (gW m (stp J) 0 k).length ≤ J.length := by
  have h := nodup_le (gW_nd (m := m) (J := J) k) (n := J.length) fun x hx => by
    obtain ⟨p, hp, rfl⟩ := List.mem_map.mp hx
    exact gW_lt w k p hp
  rw [List.length_map] at h
  exact h
theorem aW_lt (w : WFB m J) {k : Nat} {x : Nat} {v : List Nat} (hx : x < J.length) : ∀ a, a ≤ m → ∀ p ∈ addsW (stp J) x v (gW m (stp J) 0 k) a, p.1 < J.length
  | 0, _, p, hp => gW_lt w k p hp
  | a + 1, ha, p, hp => by
    rw [addsW_succ] at hp
    unfold addW at hp
    split at hp
    · exact aW_lt w hx a (by omega) p hp
    · rcases List.mem_append.mp hp with hp | hp
      · exact aW_lt w hx a (by omega) p hp
      · rw [List.mem_singleton.mp hp]
        exact w.stp_lt hx (by omega)
theorem aW_le (w : WFB m J) {k : Nat} {x : Nat} {v : List Nat} (hx : x < J.length) {a : Nat} (ha : a ≤ m) : (addsW (stp J) x v (gW m (stp J) 0 k) a).length ≤ J.length := by
  have h := nodup_le (l := (addsW (stp J) x v (gW m (stp J) 0 k) a).map Prod.fst) (n := J.length) (by rw [addsW_map]; exact nd_addsN (gW_nd k)) fun y hy => by
    obtain ⟨p, hp, rfl⟩ := List.mem_map.mp hy
    exact aW_lt w hx a ha p hp
  rw [List.length_map] at h
  exact h
/-- the word of a place is no longer than its place -/
theorem gW_wl (hm : 0 < m) {k : Nat} (hq : ∀ q, q < k → q < (gW m (stp J) 0 q).length) {p : Nat × List Nat} (hp : (gW m (stp J) 0 k)[k]? = some p) : p.2.length ≤ k := (gW_ok hm k hq p hp).1.lg _ _ hp
end
end U
set_option maxHeartbeats 4000000
namespace X7
open PySem PySem.Spec PyProof.Rows L2
section
variable {P : Program} {w : World} {A : Around} {E : Value → Shared → Prop} {s : Shared}
/-- the heap with a new set -/
abbrev h0Set (w : World) (h : Heap) : Heap := h.push { cls := .type "set", dict := none, data := .set #[] 0 (.fresh 0 0 (!w.params.followText "set-order")) }
/-- set(l), with all that an order asks of it -/
theorem set_ofList {l : Addr} {items : Array Value} {ns : List Int} {Q : Value → Shared → Prop} (hh : A.handled = none) (hl : s.heap.IsList l items) (hit : IntsAre items.toList ns) (hb : ns.length + 1 < scanBound)
    (k : ∀ (h' : Heap) (tk c : Nat), SetR w h' s.heap.objs.size (fun j => decide (j ∈ ns)) c → c ≤ ns.length → (∀ b o, s.heap.get? b = some o → h'.get? b = some o) → Q (.ref s.heap.objs.size) { s with heap := h', toks := tk }) :
    wpAny (model P w) A (call (.type "set") [.ref l]) Q E s := by
  have hsz : items.size = ns.length := by
    have q := IntsAre.length hit
    rw [Array.length_toList] at q
    exact q
  have up : ∀ b o, s.heap.get? b = some o → (h0Set w s.heap).get? b = some o := fun b o e => Heap.get?_push_of_some _ e
  have at0 : (h0Set w s.heap).get? s.heap.objs.size = some { cls := .type "set", dict := none, data := .set #[] 0 (.fresh 0 0 (!w.params.followText "set-order")) } := Heap.get?_push_size _ rfl
  obtain ⟨c, tl, hmro⟩ := F.called_set.mro
  have f1 := F.called_set.made
  have f2 := F.called_set.sub
  have f3 := F.called_set.notType
  have f4 := F.called_set.canCreate
  have f5 := F.typeCall_set_1 (.ref l)
  refine wpAny_call (codeAny_of_tree (show wpAny _ _ (callAny (.type "set") _) _ _ _ from wpAny_pure ⟨Code.quiet_builtin _ (by decide +kernel), codeAny_builtin F.entry_type_call ?_⟩))
  rw [Around.under_plain (weight_type_call_type "set" [.ref l] []) rfl]
  repeat (any_goals (first | assumption | wp_step))
  refine codeAny_mono (code_set_led1 (.ref l) (E := E) (Q₁ := fun ob z => ob = .ref s.heap.objs.size ∧ z = { s with heap := h0Set w s.heap }) ⟨rfl, rfl⟩) fun r z hr => ?_
  match r, hr with
  | .error e, hr => exact hr
  | .ok (.ret ob), hr =>
    obtain ⟨rfl, rfl⟩ := hr
    have tS : Shared.TypeIs { s with heap := h0Set w s.heap } (.ref s.heap.objs.size) "set" := ⟨_, at0, rfl⟩
    have g1 := F.called_set.init.lookup
    have g2 := F.called_set.init.bind (.ref s.heap.objs.size)
    repeat (any_goals (first | assumption | wp_step))
    refine codeAny_mono (codeAny_call_builtin (R := wants (fun r z => r = .none ∧ ∃ h' tk n, z = { s with heap := h', toks := tk } ∧ SetR w h' s.heap.objs.size (fun j => decide (j ∈ ns)) n ∧ n ≤ ns.length ∧ ∀ b o, s.heap.get? b = some o → h'.get? b = some o) E) F.called_set.init.plain F.entry_set_init (check_set_init_1 tS ?_)) fun r2 z2 hz2 => ?_
    · have hl1 : (h0Set w s.heap).IsList l items := hl.push _
      obtain ⟨ol, hol, hcl, nl, hdl⟩ := id hl1
      obtain ⟨ocls, odict, odata, oslots⟩ := ol
      simp only at hcl hdl
      subst hcl
      subst hdl
      have u1 := F.sub_list_set
      have u2 := F.sub_list_frozenset
      have u3 : (Value.type "list" == Value.type "dict") = false := by decide
      unfold Builtin.«set.__init__» noKeywords Builtin.Frozenset.updateFrom
      generalize hPI : pyIter = PI
      wp_walk
      subst hPI
      refine wpAny_pyIter_list hl1 (wpAny_bind (wpAny_runValue ?_))
      have ll : l < s.heap.objs.size := by
        obtain ⟨o, e, _⟩ := hl
        exact Heap.lt_size e
      have s1 : (h0Set w s.heap).objs.size = s.heap.objs.size + 1 := Heap.size_push ..
      refine set_update_ints (Walks.list (by simp [hh]) (h0Set w s.heap).objs.size l (by rw [s1]; exact Nat.ne_of_lt (Nat.lt_succ_of_lt ll)) items).toS s.heap.objs.size (by
        rw [s1]
        simp only [List.mem_cons, List.not_mem_nil, or_false, not_or]
        exact ⟨Nat.ne_of_lt (Nat.lt_succ_self _), Nat.ne_of_gt ll⟩) ns hsz hb (fun i v hv => ?_) (items.size - 0) 0 _ rfl (Nat.zero_le _) ⟨⟨_, Heap.get?_push_size _ rfl, rfl, rfl⟩, hl1.push _⟩ ⟨0, Nat.le_refl _, setR_new_at (Heap.get?_push_of_some _ at0)⟩ fun z n mv hn hS => ?_
      · have hi : i < ns.length := by rw [← hsz]; exact (Array.getElem?_eq_some_iff.mp hv).1
        obtain ⟨t, e⟩ := IntsAre.int_at hit i v (by rw [Array.getElem?_toList]; exact hv)
        exact ⟨ns[i], t, List.getElem?_eq_getElem hi, by rw [e, List.getD_eq_getElem?_getD, List.getElem?_eq_getElem hi] <;> rfl⟩
      · obtain ⟨h', g2, d2, tk, o2⟩ := z
        have q1 : g2 = s.gens := mv.gens
        have q2 : d2 = s.drawn := mv.drawn
        have q3 : o2 = s.os := mv.os
        subst q1
        subst q2
        subst q3
        refine wpAny_pure (show wpAny _ _ (ret Value.none) _ _ _ from wpAny_pure ⟨rfl, h', tk, n, rfl, hS, by rw [← hsz]; exact hn, fun b o e => ?_⟩)
        have b0 : b < s.heap.objs.size := Heap.lt_size e
        refine mv.heap b o (fun z => ?_) (Heap.get?_push_of_some _ (up b o e))
        rw [s1] at z
        simp only [List.mem_cons, List.not_mem_nil, or_false] at z
        rcases z with e2 | e2
        · exact Nat.ne_of_lt b0 e2
        · exact Nat.ne_of_lt (Nat.lt_succ_of_lt b0) e2
    · match r2, hz2 with
      | .error e, hz2 => exact hz2
      | .ok (.ret v), hz2 =>
        obtain ⟨rfl, h', tk, n, rfl, hS, hn, hk⟩ := hz2
        repeat (any_goals (first | assumption | wp_step))
        exact k _ _ _ hS hn hk
      | .ok (.next), hz2 => exact hz2.elim
  | .ok (.next), hr => exact hr.elim
end
end X7
set_option maxHeartbeats 4000000
namespace X7
open PySem PySem.Spec PyProof.Rows L2
/-- sorted(set(e)), e a list of whole numbers, fewer than 64 of them apart -/
def tSortSet (K : PySem.W.Frag) (ta : TE) : TE := fun σ H Q => ta σ H fun x H1 => ∃ (l : Addr) (ns : List Int), x = .ref l ∧ SqL K H1 l (ns.map V.int) ∧ ns.length ≤ 4000 ∧ (∀ us : List Int, us.Nodup → (∀ k ∈ us, k ∈ ns) → us.length < 64) ∧
  ∀ (ks : List Int) (p : Addr), ks.Pairwise (· < ·) → (∀ k, k ∈ ks ↔ k ∈ ns) → H1 p = none → Q (.ref p) (upd H1 p (.lst (ks.map V.int)))
theorem setR_n {w : World} {h : Heap} {a : Addr} {S : Int → Bool} {n : Nat} (R : SetR w h a S n) : ∃ us : List Int, us.Nodup ∧ us.length = n ∧ ∀ k, k ∈ us ↔ S k = true := by
  obtain ⟨o, es, ep, t, _, _, _, _, nd, hm, _, _, hn, _⟩ := R
  exact ⟨_, nd, by rw [List.length_map, Array.length_toList]; exact hn, fun k => (hm k).symm⟩
theorem sortSetK {X : Cx} (K : PySem.W.Frag) (hK : X.K = K) {a : Expr} {ta : TE} {p p2 q pos : Pos} (hg : Gl X "sorted") (hm : X.mg "sorted" = none) (hg2 : Gl X "set") (hm2 : X.mg "set" = none) (ha : PE X a ta) (hc : X.calm = true := by rfl)
    (na : starEach [a] X.env = (false, eval a X.env) :: starEach [] X.env := by rfl) : PE X (.Call (.Name "sorted" p) [.Call (.Name "set" p2) [a] [] q] [] pos) (tSortSet K ta) := by
  subst hK
  refine ⟨fun pins s σ H Q I h => ?_⟩
  refine Call_ (ld_blt I hg hm (by first | rfl | kernel_rfl | decide +kernel) ?_)
  refine PyProof.Rows.callWith_builtin1 (PyProof.Rows.args_cons ?_ rfl) rfl rfl
  refine Call_ (ld_blt I hg2 hm2 boot_set ?_)
  refine PyProof.Rows.callWith_type1 (PyProof.Rows.args_cons (thn (ha.run pins s σ H _ I h) fun v s1 ⟨x, H1, I1, r1, q1⟩ => PyProof.Rows.args_nil ?_) na) na rfl
  obtain ⟨l, ns, rfl, hq, hl, h64, q1⟩ := q1
  cases r1
  obtain ⟨its, r, pl, hz⟩ := I1.list hq
  refine set_ofList (I1.ok.hd hc) pl.isList (by simpa using RZ.intsAre_vals r) (by unfold scanBound; omega) fun h' tk n hS hn hk => ?_
  refine PyProof.Rows.args_nil ?_
  have I2 : Inv X pins σ H1 { s1 with heap := h', toks := tk } := I1.kept hk
  obtain ⟨us, und, unl, um⟩ := setR_n hS
  have hS2 : SetR X.w ({ s1 with heap := h', toks := tk } : Shared).heap s1.heap.objs.size (fun j => decide (j ∈ ns)) n := hS
  have hn64 : n < 64 := by
    rw [← unl]
    exact h64 us und fun k hk => decide_eq_true_iff.mp ((um k).mp hk)
  generalize ({ s1 with heap := h', toks := tk } : Shared) = s2 at I2 hS2 ⊢
  refine sorted_set (s := s2) hS2 (I2.ok.hd hc) hn64 fun s' p out c ks kk g o hp hgp hi hs hmm hln => ?_
  have hks : (ks.map V.int).length ≤ sizeLine := by rw [List.length_map, hln, sizeLine_eq]; omega
  have hpn : H1 p = none := I2.hok.fresh hp
  have J : Inv X pins σ (upd H1 p (.lst (ks.map V.int))) { s2 with heap := s'.heap, gens := s'.gens, drawn := s'.drawn, toks := s'.toks } :=
    (I2.call (ch := []) (Un.laid kk hp hpn) (I2.hok.laid kk hp ⟨hks, out.toList, c, vals_of_ints hi, hgp⟩) (by rw [g]; exact I2.bare) (fun _ z => nomatch z))
  have e : s' = { s2 with heap := s'.heap, gens := s'.gens, drawn := s'.drawn, toks := s'.toks } := by
    cases s'
    cases s2
    cases o
    rfl
  rw [e]
  exact ⟨.ref p, _, J, rfl, q1 ks p hs (fun k => (hmm k).trans decide_eq_true_iff) hpn⟩
theorem i_sortSet {K : PySem.W.Frag} {ta : TE} {σ : L2.St} {H : Hp} {Q : VK} (q : ta σ H fun x H1 => ∃ (l : Addr) (ns : List Int), x = .ref l ∧ SqL K H1 l (ns.map V.int) ∧ ns.length ≤ 4000 ∧ (∀ us : List Int, us.Nodup → (∀ k ∈ us, k ∈ ns) → us.length < 64) ∧
  ∀ (ks : List Int) (p : Addr), ks.Pairwise (· < ·) → (∀ k, k ∈ ks ↔ k ∈ ns) → H1 p = none → Q (.ref p) (upd H1 p (.lst (ks.map V.int)))) : tSortSet K ta σ H Q := q
end X7
set_option maxHeartbeats 4000000
namespace X7
open PySem PySem.Spec PyProof.Rows L2 U
def strV (x y : Str) (i : Nat) : Str := if i = 0 then x else y
theorem cmpOf_strs {prog : Program} {w : World} {A : Around} {x y : Str} {t u : Tok} : CmpOf prog w A .Lt (fun i v => (#[.str x t, .str y u] : Array Value)[i]? = some v) (fun i j => decide ((strV x y i).cps.toList < (strV x y j).cps.toList)) := fun i j vi vj s Q E hi hj h => by
  have key : ∀ (i : Nat) (v : Value), (#[.str x t, .str y u] : Array Value)[i]? = some v → ∃ t', v = .str (strV x y i) t' := fun i v hi => by
    match i, hi with
    | 0, hi => exact ⟨t, by simpa [strV] using hi.symm⟩
    | 1, hi => exact ⟨u, by simpa [strV] using hi.symm⟩
    | n + 2, hi => simp at hi
  obtain ⟨t1, rfl⟩ := key i vi hi
  obtain ⟨t2, rfl⟩ := key j vj hj
  exact richCompare_gives (op := .Lt) (typeIs_str s _ t1) (typeIs_str s _ t2) F.slot_str_lt F.entry_str_lt (F.args_str_lt_2 _ _) (gives_str_lt _ _ t1 t2) (fun e => nomatch e) h
theorem min_two_strs {prog : Program} {w : World} {A : Around} {E : Value → Shared → Prop} {s : Shared} {x y : Str} {t u : Tok} {Q : Value → Shared → Prop} (hh : A.handled = none)
    (h : ∀ h' tk, (∀ c o, s.heap.get? c = some o → h'.get? c = some o) → Q (if y.cps.toList < x.cps.toList then .str y u else .str x t) { s with heap := h', toks := tk }) :
    wpAny (model prog w) A (call (.builtin "min") [.str x t, .str y u]) Q E s := by
  have hT : (s.heap.push { cls := .type "tuple", data := .seq #[.str x t, .str y u] }).IsTuple s.heap.objs.size #[.str x t, .str y u] := ⟨_, Heap.get?_push_size _ rfl, rfl, 0, rfl⟩
  refine call_min_two (wpAny_pyIter_tuple hT ?_)
  have hsz : (s.heap.push { cls := .type "tuple", data := .seq #[.str x t, .str y u] }).objs.size = s.heap.objs.size + 1 := Heap.size_push ..
  refine ⟨_, [_, s.heap.objs.size], [_], _, _, _, _, rfl, Walks.tuple (A := A.in1) hh _ s.heap.objs.size (by rw [hsz]; exact Nat.ne_of_lt (Nat.lt_succ_self _)) #[.str x t, .str y u],
    ⟨⟨_, Heap.get?_push_size _ rfl, rfl, rfl⟩, hT.push _⟩, fun c hc => ?_, by simp, cmpOf_strs, fun v h' tk hP hk => ?_⟩
  · show c < ((s.heap.push _).push _).objs.size
    rw [Heap.size_push, hsz]
    rcases List.mem_cons.mp hc with rfl | hc
    · rw [hsz]; exact Nat.lt_succ_self _
    · rcases List.mem_cons.mp hc with rfl | hc
      · exact Nat.lt_succ_of_lt (Nat.lt_succ_self _)
      · cases hc
  · have hold : ∀ c o, s.heap.get? c = some o → h'.get? c = some o := fun c o e => by
      refine hk c o (fun hm => ?_) (Heap.get?_push_of_some _ (Heap.get?_push_of_some _ e))
      rcases List.mem_cons.mp hm with e1 | hm
      · have := Heap.lt_size e; rw [e1, hsz] at this; exact Nat.lt_irrefl _ (Nat.lt_of_succ_lt this)
      · cases hm
    have := h h' tk hold
    have hv : v = if y.cps.toList < x.cps.toList then .str y u else .str x t := by
      have hP' : (#[.str x t, .str y u] : Array Value)[(if decide (y.cps.toList < x.cps.toList) = true then 1 else 0 : Nat)]? = some v := hP
      by_cases hc : y.cps.toList < x.cps.toList
      · rw [decide_eq_true hc, if_pos rfl] at hP'
        rw [if_pos hc]
        exact (Option.some.inj hP').symm
      · rw [decide_eq_false hc, if_neg Bool.false_ne_true] at hP'
        rw [if_neg hc]
        exact (Option.some.inj hP').symm
    rw [hv]; exact this
def rMinS : List V → Hp → VK → Prop := fun xs H Q => ∃ x y, xs = [.str x, .str y] ∧ Q (.str (if y.cps.toList < x.cps.toList then y else x)) H
theorem call_minS {X : Cx} (hc : X.calm = true) : CallR X (.builtin "min") rMinS := by
  intro pins s σ H xs us Q I r h
  obtain ⟨i, j, rfl, q⟩ := h
  obtain ⟨u, w', rfl, ⟨t, rfl⟩, ⟨t', rfl⟩⟩ := vals2 r
  refine min_two_strs (I.ok.hd hc) fun h' tk k => ⟨_, H, I.kept k, ?_, q⟩
  by_cases hj : j.cps.toList < i.cps.toList
  · rw [if_pos hj, if_pos hj]; exact ⟨_, rfl⟩
  · rw [if_neg hj, if_neg hj]; exact ⟨_, rfl⟩
theorem sumK {X : Cx} (K : PySem.W.Frag) (hK : X.K = K) (hc : X.calm = true) : CallR X (.builtin "sum") (rSum K) := by
  subst hK
  exact cr_sum hc
theorem revLK {X : Cx} (K : PySem.W.Frag) (hK : X.K = K) {e : Expr} {te : TE} {k : Nat} {p1 p2 p3 pos : Pos} (he : PE X e te) : PE X (.Subscript e (.Slice none none (some (.UnaryOp .USub (.Constant (.int 1) k p1) p2)) p3) pos) (tRevL K te) := by
  subst hK
  exact pe_revL he
theorem i_revL {K : PySem.W.Frag} {te : TE} {σ : L2.St} {H : Hp} {Q : VK} (q : te σ H fun x H1 => ∃ a xs, x = .ref a ∧ SqL K H1 a xs ∧ ∀ p, H1 p = none → Q (.ref p) (upd H1 p (.lst xs.reverse))) : tRevL K te σ H Q := q
theorem i_cat {H : Hp} {Q : VK} {l b : Addr} {xs zs : List V} (h : H l = some (.lst xs)) (h' : H b = some (.lst zs)) (hl : xs.length + zs.length ≤ 16777216) (q : ∀ p, H p = none → Q (.ref p) (upd H p (.lst (xs ++ zs)))) : rCat (.ref l) (.ref b) H Q := ⟨l, b, xs, zs, rfl, rfl, h, h', szl hl, q⟩
end X7
set_option maxHeartbeats 4000000
namespace X7
open PySem PySem.Spec PyProof.Rows L2 U
open L2H (RoomH PinOk cxH inv_startH)
/-- no list, tuple or dict is being shown around -/
abbrev Gds (A : Around) : Prop := A.guards = some []
theorem Gds.deeper {A : Around} (h : Gds A) (env : Env) : Gds (A.deeper env) := h
structure FnG (P : Program) (w : World) (K : PySem.W.Frag) (mg : Str → Option Value) (base : Heap) (CX : CXT) (k : Nat) (f : Addr) (fd : FuncData) (ps : List Str) (sp : Sp) : Prop where
  len : ∀ vs H Q E, sp vs H Q E → vs.length = ps.length
  run : ∀ (A : Around) (outer : List Env) (s : Shared) (H : Hp) (args : Args) (us : List Value) (vs : List V) (Q : VK) (E : XK), Room k A → Gds A → Env0 P w K mg base A outer s H → BindsTo s fd args (ps.zip us) → Vals vs us → sp vs H Q E →
    codeAny (model P w) A (.call (.ref f) args) (CR CX outer P w H s Q E) s
section
variable {P : Program} {w : World} {K : PySem.W.Frag} {mg : Str → Option Value} {base : Heap} {CX : CXT} {N ps : List Str} {x qual : Str} {st : Stmt} {f : Addr} {fd : FuncData} {k : Nat} {sp : Sp}
theorem fnGX (F : C8.Fun K x qual st f fd) (S : FnScope N ps (C8.fnScope st)) (len : ∀ vs H Q E, sp vs H Q E → vs.length = ps.length)
    (hb : ∀ (cdv : Value) (A : Around) (outer : List Env) (s : Shared) (H : Hp) (vs : List V) (Q : VK) (E : XK), Room k (A.deeper (envOfC qual (C8.fnScope st) s.heap.objs.size f cdv)) → Gds (A.deeper (envOfC qual (C8.fnScope st) s.heap.objs.size f cdv)) → sp vs H Q E →
      ∃ t, PSs (cxOf CX P w K mg base N qual (C8.fnScope st) f cdv A outer s H E) (C8.fnBody st) t ∧ t { nx := fun _ H' => Q .non H', rt := Q } (L2.start N vs) H) : FnG P w K mg base CX (k + 1) f fd ps sp := by
  obtain ⟨oc, od, dV, kV, doc, pm, an, cdv, ct, osl, rfl, lk, hcd⟩ := F.ex
  refine ⟨len, fun A outer s H args us vs Q E hr hgd e0 hbd r hsp => ?_⟩
  have hl := len _ _ _ _ hsp
  have kx : K.In s.heap := e0.mod.kin.keeps fun b o e => (e0.bs b o e).1
  have hk : ∀ y ∈ ps.zip us, (C8.fnScope st).names.lookup y.1 = some .local ∨ ((C8.fnScope st).names.lookup y.1 = some .cell ∧ ((cellsFrom (s.heap.objs.size + 1) (C8.fnScope st).names []).lookup y.1).isSome = true) := fun ⟨n, v⟩ hy => (S.par n (List.of_mem_zip hy).1).elim .inl fun z => .inr ⟨z, PySem.W.cellsFrom_some _ _ _ (.inl z)⟩
  refine codeAny_call_function hr.depth (kx _ _ lk) rfl S.co S.gen rfl (PySem.W.codeRec_of kx hcd) (hbd _ _ _ _ (wpAny_newFunctionEnv_cells S.kind hk fun env he s1 ic => ?_))
  subst he
  refine ⟨(e0.mod.nolimit.keeps fun b o e => (e0.bs b o e).1).keeps ic.toInCall.keep, codeAny_func ?_⟩
  obtain ⟨t, ht, hq⟩ := hb cdv A outer s H vs Q E (hr.deeper _) hgd hsp
  have I : Inv (cxOf CX P w K mg base N qual (C8.fnScope st) f cdv A outer s H E) [] (L2.start N vs) H s1 := inv_start S hr.hd e0 hl r ic
  refine wpAny_mono (ht.run [] s1 (L2.start N vs) H _ I hq) (fun fl s' hs => ?_) fun e s' hs => hs
  have fin : ∀ {σ' : L2.St} {H' : Hp} {v : V} {u : Value}, Inv (cxOf CX P w K mg base N qual (C8.fnScope st) f cdv A outer s H E) [] σ' H' s' → RelV v u → Q v H' → CE outer P w H s Q u s' := fun {σ' H' v u} J rv z => ⟨v, H', J.os, J.bare, J.base, J.hok, rv, z⟩
  cases fl with
  | ret u => exact let ⟨v, σ', H', J, rv, z⟩ := hs; fin J rv z
  | next => exact let ⟨σ', H', J, z⟩ := hs; fin (v := V.non) (u := Value.none) J rfl z
  | brk => exact let ⟨_, _, _, z⟩ := hs; z.elim
  | cont => exact let ⟨_, _, _, z⟩ := hs; z.elim
end
/-- a def of the top of that kind that never raises -/
structure CalG (P : Program) (w : World) (K : PySem.W.Frag) (mg : Str → Option Value) (base : Heap) (k : Nat) (x : Str) (sp : Sp) : Prop where
  ex : ∃ (f : Addr) (fd : FuncData) (ps : List Str), FnG P w K mg base C8.CX0 k f fd ps sp ∧ mg x = some (.ref f) ∧ PySem.W.keepIn K (.ref f) = true ∧ Binds K fd ps []
section
variable {X : Cx} {k j : Nat} {x : Str} {sp : Sp} {e : Expr} {es : List Expr} {t : TA} {p pos : Pos}
theorem pe_cG (c : CalG X.prog X.w X.K X.mg X.base k x sp) (hr : Room j X.A) (hk : k ≤ j) (hgd : Gds X.A) (hg : Gl X x) (ha : PA X (e :: es) t)
    (hdb : (x == ("__debug__" : Str)) = false := by decide) (he : starEach (e :: es) X.env = (false, eval e X.env) :: starEach es X.env := by rfl) (hpl : (backTo pos (starEach es X.env)).any (·.1) = false := by rfl) :
    PE X (.Call (.Name x p) (e :: es) [] pos) (tCallS sp (fun _ => C8.E0) t) := by
  obtain ⟨f, fd, ps, F, hm, kp, b⟩ := c.ex
  refine ⟨fun pins s σ H Q I h => ?_⟩
  refine wpAny_Call_Name_kw (ld_glob I hg hm ?_ hdb)
  refine PySem.W.callWith_K (h₀ := X.base) I.ok.mod.kin kp (thn (ha.run pos pins s σ H _ I h) fun us s1 ⟨vs, H1, I1, r, z⟩ => ⟨I1.kIn, ?_⟩) he hpl
  have hl : us.length = ps.length := by rw [← r.length]; exact F.len _ _ _ _ z
  have b1 := b s1 us I1.kIn (by rw [List.append_nil]; exact hl)
  rw [List.append_nil] at b1
  refine wpAny_call (codeAny_mono (F.run X.A X.stack s1 H1 ⟨us, []⟩ us vs Q C8.E0 (hr.mono hk) hgd I1.env0 b1 r z) fun r s' hq => ?_)
  cases r with
  | error e => exact hq.elim
  | ok fl => cases fl with
    | ret u => exact I1.after hq
    | next => exact hq.elim
    | brk => exact hq.elim
    | cont => exact hq.elim
end
structure FnEG (P : Program) (w : World) (K : PySem.W.Frag) (mg : Str → Option Value) (base : Heap) (k : Nat) (f : Addr) (fd : FuncData) (ps : List Str) (sp : Addr → Value → Option Addr → Sp) : Prop where
  len : ∀ a c d vs H Q E, sp a c d vs H Q E → vs.length = ps.length
  run : ∀ (A : Around) (outer : List Env) (s : Shared) (H : Hp) (args : Args) (us : List Value) (vs : List V) (Q : VK) (E : XK) (q : Addr × Obj), RoomH k A → Gds A → PinOk outer H s q → (∃ fv, q.2.data = .fields fv) → Env0 P w K mg base A outer s H → BindsTo s fd args (ps.zip us) → Vals vs us → sp q.1 q.2.cls q.2.dict vs H Q E →
    codeAny (model P w) A (.call (.ref f) args) (CR C8.CX0 outer P w H s Q E) s
section
variable {P : Program} {w : World} {K : PySem.W.Frag} {mg : Str → Option Value} {base : Heap} {N ps : List Str} {x qual : Str} {st : Stmt} {f : Addr} {fd : FuncData} {k : Nat} {sp : Addr → Value → Option Addr → Sp}
theorem fnEG (F : C8.Fun K x qual st f fd) (S : FnScope N ps (C8.fnScope st)) (len : ∀ a c d vs H Q E, sp a c d vs H Q E → vs.length = ps.length)
    (hb : ∀ (cdv : Value) (A : Around) (outer : List Env) (s : Shared) (H : Hp) (vs : List V) (Q : VK) (E : XK) (q : Addr × Obj), RoomH k (A.deeper (envOfC qual (C8.fnScope st) s.heap.objs.size f cdv)) → Gds (A.deeper (envOfC qual (C8.fnScope st) s.heap.objs.size f cdv)) → (∃ fv, q.2.data = .fields fv) → sp q.1 q.2.cls q.2.dict vs H Q E →
      ∃ t, PSs (cxH C8.CX0 P w K mg base N qual (C8.fnScope st) f cdv A outer s H E q).nox (C8.fnBody st) t ∧ t { nx := fun _ H' => Q .non H', rt := Q } (L2.start N vs) H) : FnEG P w K mg base (k + 1) f fd ps sp := by
  obtain ⟨oc, od, dV, kV, doc, pm, an, cdv, ct, osl, rfl, lk, hcd⟩ := F.ex
  refine ⟨len, fun A outer s H args us vs Q E q hr hgd hpin hqd e0 hbd r hsp => ?_⟩
  have hl := len _ _ _ _ _ _ _ hsp
  have kx : K.In s.heap := e0.mod.kin.keeps fun b o e => (e0.bs b o e).1
  have hk : ∀ y ∈ ps.zip us, (C8.fnScope st).names.lookup y.1 = some .local ∨ ((C8.fnScope st).names.lookup y.1 = some .cell ∧ ((cellsFrom (s.heap.objs.size + 1) (C8.fnScope st).names []).lookup y.1).isSome = true) := fun ⟨n, v⟩ hy => (S.par n (List.of_mem_zip hy).1).elim .inl fun z => .inr ⟨z, PySem.W.cellsFrom_some _ _ _ (.inl z)⟩
  refine codeAny_call_function hr.depth (kx _ _ lk) rfl S.co S.gen rfl (PySem.W.codeRec_of kx hcd) (hbd _ _ _ _ (wpAny_newFunctionEnv_cells S.kind hk fun env he s1 ic => ?_))
  subst he
  refine ⟨(e0.mod.nolimit.keeps fun b o e => (e0.bs b o e).1).keeps ic.toInCall.keep, codeAny_func ?_⟩
  obtain ⟨t, ht, hq⟩ := hb cdv A outer s H vs Q E q (hr.deeper _) hgd hqd hsp
  have I : Inv (cxH C8.CX0 P w K mg base N qual (C8.fnScope st) f cdv A outer s H E q) [] (L2.start N vs) H s1 := inv_startH S hpin e0 hl r ic
  refine wpAny_mono (ht.nox.run [] s1 (L2.start N vs) H _ I hq) (fun fl s' hs => ?_) fun e s' hs => hs
  have fin : ∀ {σ' : L2.St} {H' : Hp} {v : V} {u : Value}, Inv (cxH C8.CX0 P w K mg base N qual (C8.fnScope st) f cdv A outer s H E q) [] σ' H' s' → RelV v u → Q v H' → CE outer P w H s Q u s' := fun {σ' H' v u} J rv z => ⟨v, H', J.os, J.bare, J.base, J.hok, rv, z⟩
  cases fl with
  | ret u => exact let ⟨v, σ', H', J, rv, z⟩ := hs; fin J rv z
  | next => exact let ⟨σ', H', J, z⟩ := hs; fin (v := V.non) (u := Value.none) J rfl z
  | brk => exact let ⟨_, _, _, z⟩ := hs; z.elim
  | cont => exact let ⟨_, _, _, z⟩ := hs; z.elim
end
structure CalEG (P : Program) (w : World) (K : PySem.W.Frag) (mg : Str → Option Value) (base : Heap) (k : Nat) (x : Str) (sp : Addr → Value → Option Addr → Sp) : Prop where
  ex : ∃ (f : Addr) (fd : FuncData) (ps : List Str), FnEG P w K mg base k f fd ps sp ∧ mg x = some (.ref f) ∧ PySem.W.keepIn K (.ref f) = true ∧ Binds K fd ps []
section
variable {X : Cx} {k j : Nat} {x : Str} {sp : Addr → Value → Option Addr → Sp} {a : Addr} {oe : Obj} {cls : Value} {d : Option Addr} {e : Expr} {es : List Expr} {t : TA} {p pos : Pos}
theorem pe_cEG (c : CalEG X.prog X.w X.K X.mg X.base k x sp) (hp : (a, oe) ∈ X.pn) (hz : Zc cls d oe) (hf : ∃ vs, oe.data = .fields vs) (hr : RoomH j X.A) (hk : k ≤ j) (hgd : Gds X.A) (hg : Gl X x) (ha : PA X (e :: es) t)
    (hdb : (x == ("__debug__" : Str)) = false := by decide) (he : starEach (e :: es) X.env = (false, eval e X.env) :: starEach es X.env := by rfl) (hpl : (backTo pos (starEach es X.env)).any (·.1) = false := by rfl) :
    PE X (.Call (.Name x p) (e :: es) [] pos) (tCallS (sp a cls d) (fun _ => C8.E0) t) := by
  obtain ⟨f, fd, ps, F, hm, kp, b⟩ := c.ex
  obtain ⟨hz1, hz2⟩ := hz
  subst hz1 hz2
  refine ⟨fun pins s σ H Q I h => ?_⟩
  refine wpAny_Call_Name_kw (ld_glob I hg hm ?_ hdb)
  refine PySem.W.callWith_K (h₀ := X.base) I.ok.mod.kin kp (thn (ha.run pos pins s σ H _ I h) fun us s1 ⟨vs, H1, I1, r, z⟩ => ⟨I1.kIn, ?_⟩) he hpl
  have hl : us.length = ps.length := by rw [← r.length]; exact F.len _ _ _ _ _ _ _ z
  have b1 := b s1 us I1.kIn (by rw [List.append_nil]; exact hl)
  rw [List.append_nil] at b1
  have P1 := I1.pin (a, oe) (List.mem_append_left _ hp)
  have pin : PinOk X.stack H1 s1 (a, oe) := ⟨P1.1, P1.2.1, fun hm => (List.mem_cons.mp (I1.stkSub a hm)).elim P1.2.2.1 P1.2.2.2.1, P1.2.2.2.2⟩
  refine wpAny_call (codeAny_mono (F.run X.A X.stack s1 H1 ⟨us, []⟩ us vs Q C8.E0 (a, oe) (hr.mono hk) hgd pin hf I1.env0 b1 r z) fun r s' hq => ?_)
  cases r with
  | error e => exact hq.elim
  | ok fl => cases fl with
    | ret u => exact I1.after hq
    | next => exact hq.elim
    | brk => exact hq.elim
    | cont => exact hq.elim
end
end X7
namespace X7
open PySem PySem.Spec PyProof.Rows L2 U
/-- repr(thing) of data without dicts -/
def rReprD (K : PySem.W.Frag) : List V → Hp → VK → Prop := fun xs H Q => ∃ (x : V) (d : PyData), xs = [x] ∧ Dp K H x d ∧ d.showable = true ∧ d.hasDict = false ∧ d.depth ≤ 30 ∧ d.shown.length ≤ sizeLine ∧ Q (.str d.shown) H
theorem call_reprD {X : Cx} (K : PySem.W.Frag) (hK : X.K = K) (hg : Gds X.A) (hu : X.A.units + 64 < cLine) : CallR X (.builtin "repr") (rReprD K) := by
  subst hK
  intro pins s σ H xs us Q I r h
  obtain ⟨x, d, rfl, hd, hs, hnd, hdp, hz, q⟩ := h
  obtain ⟨u, rfl, ru⟩ := vals1 r
  have deep : ∀ a, x = .ref a → wpAny (model X.prog X.w) X.A (call (.builtin "repr") [u]) (EP X pins σ Q) X.xe s := fun a e => by
    subst e
    cases ru
    obtain ⟨as, rd⟩ := Dp.reads I d (.ref a) _ hd rfl
    exact PySem.repr_of_reads' rd hs (fun e => by rw [hnd] at e; cases e) hg (by omega) (fun b o e => e) (fun h' u tk hk => ⟨.str _, H, I.kept hk, ⟨_, rfl⟩, q⟩) hz
  cases hd with
  | non =>
    cases ru
    exact PySem.P.repr_of_none ⟨.str _, H, I.tok _, ⟨_, rfl⟩, q⟩
  | bl b =>
    cases ru
    exact PySem.P.repr_of_bool ⟨.str _, H, I.tok _, ⟨_, rfl⟩, q⟩
  | int i =>
    obtain ⟨t, rfl⟩ := ru
    exact PySem.P.repr_of_int (decide_eq_true_iff.mp hs) ⟨.str _, H, I.tok _, ⟨_, rfl⟩, q⟩
  | str z =>
    obtain ⟨t, rfl⟩ := ru
    exact PySem.P.repr_of_str ⟨.str _, H, I.tok _, ⟨_, rfl⟩, q⟩ hz
  | lst _ _ => exact deep _ rfl
  | tup _ _ => exact deep _ rfl
end X7
namespace X7
open PySem PySem.Spec PyProof.Rows L2 U
theorem gds_caller : Gds callerA := rfl
section
variable {P : Program} {w : World} {K : PySem.W.Frag} {mg nb : Str → Option Value} {k : Nat} {g a : Addr} {fd : FuncData} {x : Str} {sp : Sp} {z : Shared} {us : List Value} {ns : List Int}
/-- the script alone is tracked, unless the written part knows it -/
theorem only_script (hk : K.In z.heap) (ho : z.heap.get? a = some { cls := .type "list", data := .seq us.toArray }) (hi : IntsAre us ns) (hl : ns.length ≤ sizeLine) :
    ∃ H : Hp, Only H ∧ SqL K H a (ns.map V.int) ∧ HOk P w H z.heap ∧ (∀ c, H c ≠ none → c = a) ∧ (H a ≠ none → K.lookup a = none) := by
  have rv := L2.vals_ints hi
  have hlen := hi.length
  cases hka : K.lookup a with
  | some o =>
    have e := hk a o hka
    rw [ho] at e
    cases e
    exact ⟨fun _ => none, fun _ => .inl rfl, .inr ⟨_, us.toArray, _, hka, rfl, rfl, rfl, by rw [List.size_toArray, hlen]; exact hl, by simpa using rv⟩, fun c u q => (nomatch (show (none : Option HO) = some u from q)), fun c q => absurd rfl q, fun q => absurd rfl q⟩
  | none =>
    refine ⟨fun c => if c = a then some (.frz { cls := .type "list", data := .seq us.toArray } (.lst (ns.map V.int))) else none, fun c => ?_, .inl (.inr ⟨_, if_pos rfl⟩), fun c u q => ?_, fun c q => ?_, fun _ => rfl⟩
    · by_cases h : c = a
      · exact .inr ⟨_, _, if_pos h⟩
      · exact .inl (if_neg h)
    · by_cases h : c = a
      · have e := (if_pos h).symm.trans q
        cases e
        subst h
        exact ⟨ho, by rw [List.length_map]; exact hl, us, _, rv, ho⟩
      · have e := (if_neg h).symm.trans q
        cases e
    · by_cases h : c = a
      · exact h
      · exact absurd (if_neg h) q
theorem law_callG (hk : K.In z.heap) (hn : z.heap.Ns mainGlobals mg) (hb : z.heap.Ns builtinsNs nb) (hbn : ∀ y : Str, y ≠ "__name__" → nb y = bootBuiltins y) (hno : z.heap.NoLimit) (hge : z.gens = #[])
    (ho : z.heap.get? a = some { cls := .type "list", data := .seq us.toArray }) (hi : IntsAre us ns) (hl : ns.length ≤ sizeLine) (hr : Room k callerA)
    (F : ∀ base : Heap, K.In base → base.Ns mainGlobals mg → FnG P w K mg base C8.CX0 k g fd [x] sp) (hbi : ∀ (s : Shared) (u : Value), BindsTo s fd ⟨[u], []⟩ [(x, u)])
    (hsp : ∀ H : Hp, Only H → SqL K H a (ns.map V.int) → sp [.ref a] H (fun v _ => v = .bl true) fun _ _ _ => False) :
    codeAny (model P w) callerA (.call (.ref g) ⟨[.ref a], []⟩) (fun r s' => r = .ok (.ret (.bool true)) ∧ OldK z.heap s'.heap ∧ s'.os = z.os ∧ AllBare s'.gens) z := by
  obtain ⟨H, hO, hS, hok, hA, hKa⟩ := only_script (P := P) (w := w) hk ho hi hl
  have free : ∀ {c : Addr} {o : Obj}, c ≠ a → H c = none := fun {c o} h => Classical.byContradiction fun q => h (hA c q)
  have dct : ∀ {c : Addr} {o : Obj} {es : Array DictEntry} {n : Nat}, z.heap.get? c = some o → o.data = .dict es n → H c = none := fun {c o es n} e d => by
    by_cases h : c = a
    · subst h
      rw [ho] at e
      cases e
      cases (show Data.seq us.toArray _ = Data.dict es n from d)
    · exact free (o := o) h
  have up : ∀ {c : Addr} {m : Str → Option Value}, z.heap.Ns c m → (hidT z.heap H).Ns c m := fun {c m} ⟨o, es, n, e, d, r⟩ => ⟨o, es, n, hidT_get e (dct e d), d, r⟩
  have kb : K.In (hidT z.heap H) := fun c o e => hidT_get (hk c o e) (by
    by_cases h : c = a
    · subst h
      refine Classical.byContradiction fun q => ?_
      rw [hKa q] at e
      cases e
    · exact free (o := o) h)
  obtain ⟨mc, l1, l2⟩ := hno
  have e0 : Env0 P w K mg (hidT z.heap H) callerA [] z H := ⟨rfl, ⟨kb, up hn, ⟨nb, up hb, hbn⟩, ⟨mc, up l1, l2⟩⟩, fun c o e => of_hidT e, Nat.le_of_eq (hidT_size _ _), trivial, fun c q => (by cases q), hok, .of_eq hge⟩
  refine codeAny_mono ((F _ kb (up hn)).run callerA [] z H ⟨[.ref a], []⟩ [.ref a] [.ref a] _ _ hr gds_caller e0 (hbi z (.ref a)) (.cons rfl .nil) (hsp H hO hS)) fun r s' q => ?_
  cases r with
  | error e => exact q.elim
  | ok fl => cases fl with
    | next => exact q.elim
    | brk => exact q.elim
    | cont => exact q.elim
    | ret u =>
      obtain ⟨v, H', os, bare, un, hok', rv, e⟩ := q
      have e : v = .bl true := e
      subst e
      obtain rfl : u = Value.bool true := rv
      refine ⟨rfl, OldK.of_keep fun c o ec => ?_, os, bare⟩
      rcases hO c with h | ⟨ob, xs, h⟩
      · exact un.keep c o ec h (by intro q; cases q) (by intro q; cases q)
      · have h2 := un.frzs c ob _ h
        obtain ⟨e1, _⟩ := hok c _ h
        obtain ⟨e2, _⟩ := hok' c _ h2
        rw [ec] at e1
        cases e1
        exact e2
end
theorem walk_ofG {l : PySem.W.OpenLaw} {n k : Nat} {q : Program} {loose : List Str} {XP : (Str → Option Value) → Heap → Prop} {YP : World → Heap → Prop} {d : DefRec} {K : Params → PySem.W.Frag} {sp : World → Sp} {x : Str}
    (hn : l.most = some n) (hn2 : n ≤ sizeLine) (hdf : d.params.defaults = []) (hr : Room k callerA) (hY : ∀ (w : World) (h : Heap), YP w h → (K w.params).In h)
    (F : ∀ (w : World) (mg : Str → Option Value) (g : Addr) (h : Heap), (K w.params).In h → h.Ns mainGlobals mg → mg d.name = some (.ref g) →
      ∃ fd : FuncData, (∀ (s : Shared) (u : Value), BindsTo s fd ⟨[u], []⟩ [(x, u)]) ∧ ∀ base : Heap, (K w.params).In base → base.Ns mainGlobals mg → FnG l.prog w (K w.params) mg base C8.CX0 k g fd [x] (sp w))
    (hsp : ∀ (w : World) (H : Hp) (a : Addr) (ns : List Int), ns.length ≤ n → (∀ z ∈ ns, Builtin.Int.intBits z ≤ 1048576) → Only H → SqL (K w.params) H a (ns.map V.int) → sp w [.ref a] H (fun v _ => v = .bl true) fun _ _ _ => False) :
    PySem.W.WalkO q loose XP YP l.row.toRowW d [] (fun f vs => PySem.call f vs) := by
  refine Att.attach_callB hn hdf fun w s₀ z mg nb g o pm cd doc a us ns G Y ho hd hcd hmg hobj hints hlen hbits hge => ?_
  have kx := hY w _ Y
  obtain ⟨fd, hb, hF⟩ := F w mg g _ kx G.T.g hmg
  exact law_callG kx G.T.g G.T.b G.T.builtins G.T.nolimit hge hobj hints (Nat.le_trans hlen hn2) hr hF hb fun H hO hS => hsp w H a ns hlen hbits hO hS
end X7
set_option maxHeartbeats 4000000
namespace X7
open PySem PySem.Spec PyProof.Rows L2 U
structure MakX (P : Program) (w : World) (K : PySem.W.Frag) (mg : Str → Option Value) (base : Heap) (k : Nat) (x : Str) (C : Addr) (sp : Sp) : Prop where
  ex : ∃ (f : Addr) (fd : FuncData) (ps : List Str), Mk K C f ∧ FnOk P w K mg base (L2.CX P w) k f fd ps sp ∧ mg x = some (.ref C) ∧ Binds K fd ps []
def tMakeS (C : Addr) (sp : Sp) (E : L2.St → XK) (t : TA) : TE := fun σ H Q => t σ H fun vs H1 => ∀ x dx, H1 x = none → H1 dx = none → dx ≠ x → sp (.ref x :: vs) (upd (upd H1 dx (.own x)) x (.ins C dx [])) (fun v H2 => v = .non ∧ Q (.ref x) H2) (E σ)
section
variable {X : Cx} {k j : Nat} {x m : Str} {C : Addr} {sp : Sp} {W : WX} {e o : Expr} {es : List Expr} {ta tb : TE} {t : TA} {p p1 p2 pos apos : Pos}
theorem pe_mkX (c : MakX X.prog X.w X.K X.mg X.base k x C sp) (hr : Room j X.A) (hk : k + 1 ≤ j) (tk : Takes X W) (hg : Gl X x) (ha : PA X (e :: es) t)
    (hdb : (x == ("__debug__" : Str)) = false := by decide) (he : starEach (e :: es) X.env = (false, eval e X.env) :: starEach es X.env := by rfl) (hpl : (backTo pos (starEach es X.env)).any (·.1) = false := by rfl) :
    PE X (.Call (.Name x p) (e :: es) [] pos) (tMakeS C sp (WE W) t) := by
  obtain ⟨f, fd, ps, M, F, hm, hb⟩ := c.ex
  refine ⟨fun pins s σ H Q I h => ?_⟩
  refine wpAny_Call_Name_kw (ld_glob I hg hm ?_ hdb)
  refine PySem.W.callWith_K (h₀ := X.base) I.ok.mod.kin M.kp (thn (ha.run pos pins s σ H _ I h) fun us s1 ⟨vs, H1, I1, r, q⟩ => ⟨I1.kIn, ?_⟩) he hpl
  have q1 := q (s1.heap.objs.size + 1) s1.heap.objs.size (I1.hok.fresh (Nat.le_succ _)) (I1.hok.fresh (Nat.le_refl _)) (Nat.ne_of_lt (Nat.lt_succ_self _))
  have J := Inv.made (C := C) I1
  have r1 : Vals (V.ref (s1.heap.objs.size + 1) :: vs) (Value.ref (s1.heap.objs.size + 1) :: us) := .cons rfl r
  have hl : (Value.ref (s1.heap.objs.size + 1) :: us).length = ps.length := by rw [← r1.length]; exact F.len _ _ _ _ q1
  have b1 := hb _ (Value.ref (s1.heap.objs.size + 1) :: us) J.kIn (by rw [List.append_nil]; exact hl)
  rw [List.append_nil] at b1
  have hr1 : Room (k + 1) X.A := hr.mono hk
  refine wpAny_call (make_map (f := f) I1.kIn M.makes M.init (beq_iff_eq.mp M.fn) (codeAny_mono (F.run _ X.stack _ _ ⟨Value.ref (s1.heap.objs.size + 1) :: us, []⟩ _ _ _ (WE W σ) (hr1.make C us []) (J.env0.make C us []) b1 r1 q1) fun r s' hq => ?_))
  cases r with
  | error e => exact passAt tk σ pins _ _ e s' J hq
  | ok fl => cases fl with
    | ret u =>
      obtain ⟨v, H', J2, rv, ev, q3⟩ := J.after hq
      subst ev
      exact ⟨rv, ⟨V.ref (s1.heap.objs.size + 1), H', J2, rfl, q3⟩⟩
    | next => exact hq.elim
    | brk => exact hq.elim
    | cont => exact hq.elim
theorem i_makeS {E : L2.St → XK} {σ : L2.St} {H : Hp} {Q : VK} (q : t σ H fun vs H1 => ∀ x dx, H1 x = none → H1 dx = none → dx ≠ x → sp (.ref x :: vs) (upd (upd H1 dx (.own x)) x (.ins C dx [])) (fun v H2 => v = .non ∧ Q (.ref x) H2) (E σ)) : tMakeS C sp E t σ H Q := q
structure MetX (P : Program) (w : World) (K : PySem.W.Frag) (mg : Str → Option Value) (base : Heap) (k : Nat) (C : Addr) (m : Str) (sp : Sp) : Prop where
  ex : ∃ (f : Addr) (fd : FuncData) (ps : List Str), Cls K C ∧ L2.Meth K C m f ∧ FnOk P w K mg base (L2.CX P w) k f fd ps sp ∧ Binds K fd ps []
def tMethS (C : Addr) (m : Str) (sp : Sp) (E : L2.St → XK) (ta : TE) (t : TA) : TE := fun σ H Q => ta σ H fun x H1 => ∃ a dx fs, x = .ref a ∧ H1 a = some (.ins C dx fs) ∧ fs.lookup m = none ∧ t σ H1 fun vs H2 => sp (x :: vs) H2 Q (E σ)
theorem pe_mtX {pl : Sem Bool} (c : MetX X.prog X.w X.K X.mg X.base k C m sp) (hr : Room j X.A) (hk : k ≤ j) (tk : Takes X W) (ho : PE X o ta) (ha : PA X (e :: es) t)
    (he : starEach (e :: es) X.env = (false, eval e X.env) :: starEach es X.env := by rfl) (hpl : (backTo pos (starEach es X.env)).any (·.1) = false := by rfl)
    (ht : eval (.Call (.Attribute o m apos) (e :: es) [] pos) X.env = (do
      let ov ← eval o X.env
      standAt apos.atName
      let (f, first) ← holding [ov] (getMethod ov m pl)
      callWith pos f first (backTo pos (starEach (e :: es) X.env)) (backToKw pos (keywordEach [] X.env))) := by rfl) :
    PE X (.Call (.Attribute o m apos) (e :: es) [] pos) (tMethS C m sp (WE W) ta t) := by
  obtain ⟨f, fd, ps, cl, me, F, b⟩ := c.ex
  refine ⟨fun pins s σ H Q I h => ?_⟩
  refine PySem.W.methodCall_KW (pl := pl) (thn (ho.run pins s σ H _ I h) fun u s1 ⟨x, H1, I1, rx, a, dx, fs, ex, ea, l, q⟩ => ?_) ht
  subst ex
  cases rx
  refine getmeth_ok I1 ea cl me l ?_
  refine PySem.W.callWith_K (first := [.ref a]) (h₀ := X.base) I.ok.mod.kin me.kp (thn (ha.run pos pins s1 σ H1 _ I1 q) fun us s2 ⟨vs, H2, I2, r, q2⟩ => ⟨I2.kIn, ?_⟩) he hpl
  exact run_fnS (E := WE W) (us := Value.ref a :: us) (vs := V.ref a :: vs) F (hr.mono hk) b (passAt tk σ) I2 (.cons rfl r) q2
theorem i_methS {E : L2.St → XK} {σ : L2.St} {H : Hp} {Q : VK} (q : ta σ H fun x H1 => ∃ a dx fs, x = .ref a ∧ H1 a = some (.ins C dx fs) ∧ fs.lookup m = none ∧ t σ H1 fun vs H2 => sp (x :: vs) H2 Q (E σ)) : tMethS C m sp E ta t σ H Q := q
structure InX (P : Program) (w : World) (K : PySem.W.Frag) (mg : Str → Option Value) (base : Heap) (k : Nat) (C : Addr) (sp : Sp) : Prop where
  ex : ∃ (f : Addr) (fd : FuncData) (ps : List Str), FnOk P w K mg base (L2.CX P w) k f fd ps sp ∧ OwnM K C "__contains__" f ∧ Binds K fd ps []
def tOwnIn (C : Addr) (sp : Sp) (E : L2.St → XK) (ta tb : TE) : TE := fun σ H Q => ta σ H fun x H1 => tb σ H1 fun y H2 => ∃ a dx fs, y = .ref a ∧ H2 a = some (.ins C dx fs) ∧ sp [.ref a, x] H2 (fun z H' => ∃ c, z = .bl c ∧ Q (.bl c) H') (E σ)
theorem pe_inX {a b : Expr} (c : InX X.prog X.w X.K X.mg X.base k C sp) (hr : Room j X.A) (hk : k ≤ j) (tk : Takes X W) (ha : PE X a ta) (hb : PE X b tb) (hm : behindInMarks .In b = false := by rfl) : PE X (.Compare a [.In] [b] pos) (tOwnIn C sp (WE W) ta tb) := by
  obtain ⟨f, fd, ps, F, o, bd⟩ := c.ex
  refine ⟨fun pins s σ H Q I h => wpAny_Compare1 (binT ha hb I h fun v u s2 x y H2 I2 rx ry q => ?_) hm⟩
  obtain ⟨a', dx, fs, rfl, e1, q⟩ := q
  cases ry
  obtain ⟨mA, J, _⟩ := ins_get I2.hok e1
  obtain ⟨od, J, _⟩ := J.look
  obtain ⟨m2, hF⟩ := I2.fr
  have z := run_fnS (E := WE W) (Q := fun z H' => ∃ c, z = .bl c ∧ Q (.bl c) H') (us := [Value.ref a', v]) (vs := [V.ref a', x]) F (hr.mono hk) bd (passAt tk σ) I2 (.cons rfl (.cons rx .nil)) q
  refine PySem.W.in_K hF I2.ok.mod.kin J o.at_ o.fn (thn z fun r s' ⟨z, H', I', rz, c, ez, q'⟩ => ?_)
  subst ez
  cases rz
  exact wpAny_truthy_bool ⟨.bl c, H', I', rfl, q'⟩
theorem i_inX {E : L2.St → XK} {σ : L2.St} {H : Hp} {Q : VK} (q : ta σ H fun x H1 => tb σ H1 fun y H2 => ∃ a dx fs, y = .ref a ∧ H2 a = some (.ins C dx fs) ∧ sp [.ref a, x] H2 (fun z H' => ∃ c, z = .bl c ∧ Q (.bl c) H') (E σ)) : tOwnIn C sp E ta tb σ H Q := q
structure StX (P : Program) (w : World) (K : PySem.W.Frag) (mg : Str → Option Value) (base : Heap) (k : Nat) (x : Str) (C : Addr) (m : Str) (sp : Sp) : Prop where
  ex : ∃ (f p : Addr) (fd : FuncData) (ps : List Str) (r : List Value), FnOk P w K mg base (L2.CX P w) k f fd ps sp ∧ Binds K fd ps [] ∧ mg x = some (.ref C) ∧ PySem.W.keepIn K (.ref f) = true ∧ PySem.W.specialIn K (.ref C) "__getattribute__" = some (some (.builtin "type.__getattribute__")) ∧ PySem.W.typeIn K (.ref C) = some (.type "type") ∧
    PySem.W.readsIn K C (.type "type") = true ∧ PySem.W.findCls K (.ref C) (.type "type") m = some (.get (.builtin "staticmethod.__get__") (.ref p) .none (.ref C)) ∧ PySem.W.recIn K p "staticmethod" = some (.ref f :: r) ∧ PySem.W.handedIn (.ref f) = true
theorem pe_stX {pl : Sem Bool} (c : StX X.prog X.w X.K X.mg X.base k x C m sp) (hr : Room j X.A) (hk : k ≤ j) (tk : Takes X W) (hg : Gl X x) (ha : PA X (e :: es) t)
    (hdb : (x == ("__debug__" : Str)) = false := by decide) (he : starEach (e :: es) X.env = (false, eval e X.env) :: starEach es X.env := by rfl) (hpl : (backTo pos (starEach es X.env)).any (·.1) = false := by rfl)
    (ht : eval (.Call (.Attribute (.Name x p1) m p2) (e :: es) [] pos) X.env = (do
      let ov ← eval (.Name x p1) X.env
      standAt p2.atName
      let (f, first) ← holding [ov] (getMethod ov m pl)
      callWith pos f first (backTo pos (starEach (e :: es) X.env)) (backToKw pos (keywordEach [] X.env))) := by rfl) : PE X (.Call (.Attribute (.Name x p1) m p2) (e :: es) [] pos) (tCallS sp (WE W) t) := by
  obtain ⟨f, p, fd, ps, r, F, b, hm, kp, hga, hty, hrd, hfc, hrec, hv⟩ := c.ex
  refine ⟨fun pins s σ H Q I h => ?_⟩
  refine PySem.W.methodCall_KW (pl := pl) (ld_glob I hg hm ?_ hdb) ht
  obtain ⟨ml, fr⟩ := I.fr
  refine PySem.W.method_of_cls fr I.ok.mod.kin hga (PySem.W.cls_sm fr I.ok.mod.kin hty hrd hfc hrec hv ?_)
  exact PySem.W.callWith_K (h₀ := X.base) I.ok.mod.kin kp (thn (ha.run pos pins _ σ H _ (I.tok _) h) fun us s1 ⟨vs, H1, I1, r1, q⟩ => ⟨I1.kIn, run_fnS F (hr.mono hk) b (passAt tk σ) I1 r1 q⟩) he hpl
end
end X7
namespace X7
open PySem PySem.Spec PyProof.Rows L2 U
section
variable {P : Program} {w : World} {K : PySem.W.Frag} {mg : Str → Option Value} {base : Heap} {N ps : List Str} {x qual : Str} {st : Stmt} {f : Addr} {fd : FuncData} {k : Nat} {sp : Sp}
/-- such a def in which nothing is raised -/
theorem fnG0 (F : C8.Fun K x qual st f fd) (S : FnScope N ps (C8.fnScope st)) (len : ∀ vs H Q E, sp vs H Q E → vs.length = ps.length)
    (hb : ∀ (cdv : Value) (A : Around) (outer : List Env) (s : Shared) (H : Hp) (vs : List V) (Q : VK) (E : XK), Room k (A.deeper (envOfC qual (C8.fnScope st) s.heap.objs.size f cdv)) → Gds (A.deeper (envOfC qual (C8.fnScope st) s.heap.objs.size f cdv)) → sp vs H Q E →
      ∃ t, PSs (cxOf C8.CX0 P w K mg base N qual (C8.fnScope st) f cdv A outer s H E).nox (C8.fnBody st) t ∧ t { nx := fun _ H' => Q .non H', rt := Q } (L2.start N vs) H) : FnG P w K mg base C8.CX0 (k + 1) f fd ps sp :=
  fnGX F S len fun cdv A outer s H vs Q E hr hg h => let ⟨t, ht, hq⟩ := hb cdv A outer s H vs Q E hr hg h; ⟨t, ht.nox, hq⟩
end
end X7
namespace U
open PySem PySem.Spec PyProof.Rows L2
inductive Thg (H : Hp) : V → String → Prop
  | non : Thg H .non "NoneType"
  | bl (b : Bool) : Thg H (.bl b) "bool"
  | int (i : Int) : Thg H (.int i) "int"
  | str (z : Str) : Thg H (.str z) "str"
  | lst {a : Addr} {xs : List V} (h : H a = some (.lst xs)) : Thg H (.ref a) "list"
  | tup {a : Addr} {xs : List V} (h : H a = some (.tup xs)) : Thg H (.ref a) "tuple"
  | dct {a : Addr} {kvs : List (Key × V)} (h : H a = some (.dK kvs)) : Thg H (.ref a) "dict"
section
variable {K : PySem.W.Frag} {H H' : Hp} {x : V} {T : String} {Q : VK}
theorem Thg.ty (h : Thg H x T) : TyX K H x (.type T) := by
  cases h with
  | non => exact .base .non
  | bl b => exact .base (.bl b)
  | int i => exact .base (.int i)
  | str z => exact .base (.str z)
  | lst h => exact .base (.lst h)
  | tup h => exact .base (.tup h)
  | dct h => exact .base (.dK h)
theorem Thg.same (h : Thg H x T) (s : Same H H') : Thg H' x T := by
  cases h with
  | non => exact .non
  | bl b => exact .bl b
  | int i => exact .int i
  | str z => exact .str z
  | lst h => exact .lst (s _ _ h)
  | tup h => exact .tup (s _ _ h)
  | dct h => exact .dct (s _ _ h)
theorem Thg.sq {a : Addr} {t : Bool} {xs : List V} (h : H a = some (sq t xs)) : Thg H (.ref a) (if t then "tuple" else "list") := by
  cases t with
  | false => exact .lst h
  | true => exact .tup h
/-- a kind among built-in ones -/
def lsB (T : String) : Bool := decide (T = "tuple" ∨ T = "list")
theorem i_isiT {b : String} {r : Bool} (ty : Thg H x T) (h : kitB T b = some r) (q : Q (.bl r) H) : rIsi K [x, .ty b] H Q := i_isi (a := T) ty.ty h q
theorem kinds (h : Thg H x T) : T = "NoneType" ∨ T = "bool" ∨ T = "int" ∨ T = "str" ∨ T = "list" ∨ T = "tuple" ∨ T = "dict" := by
  cases h <;> simp
theorem i_isiLs {tp : Addr} (h : Thg H x T) (ht : H tp = some (.tup [.ty "tuple", .ty "list"])) (q : Q (.bl (lsB T)) H) : rIsiT K [x, .ref tp] H Q := by
  refine ⟨x, tp, [.ty "tuple", .ty "list"], .type T, [.type "tuple", .type "list"], lsB T, rfl, ht, .cons (.ty _) (.cons (.ty _) .nil), h.ty, ?_, q⟩
  rcases kinds h with rfl | rfl | rfl | rfl | rfl | rfl | rfl
  · exact kitAny_cons (b := false) (kit_ty (by decide +kernel)) (fun _ => kitAny_cons (b := false) (kit_ty (by decide +kernel)) (fun _ => rfl) fun z => by cases z) fun z => by cases z
  · exact kitAny_cons (b := false) (kit_ty (by decide +kernel)) (fun _ => kitAny_cons (b := false) (kit_ty (by decide +kernel)) (fun _ => rfl) fun z => by cases z) fun z => by cases z
  · exact kitAny_cons (b := false) (kit_ty (by decide +kernel)) (fun _ => kitAny_cons (b := false) (kit_ty (by decide +kernel)) (fun _ => rfl) fun z => by cases z) fun z => by cases z
  · exact kitAny_cons (b := false) (kit_ty (by decide +kernel)) (fun _ => kitAny_cons (b := false) (kit_ty (by decide +kernel)) (fun _ => rfl) fun z => by cases z) fun z => by cases z
  · exact kitAny_cons (b := false) (kit_ty (by decide +kernel)) (fun _ => kitAny_cons (b := true) (kit_ty (by decide +kernel)) (fun z => by cases z) fun _ => rfl) fun z => by cases z
  · exact kitAny_cons (b := true) (kit_ty (by decide +kernel)) (fun z => by cases z) fun _ => rfl
  · exact kitAny_cons (b := false) (kit_ty (by decide +kernel)) (fun _ => kitAny_cons (b := false) (kit_ty (by decide +kernel)) (fun _ => rfl) fun z => by cases z) fun z => by cases z
end
/-- a whole number from lo to hi -/
def intB (lo hi : Int) : V → Bool
  | .int i => decide (lo ≤ i ∧ i ≤ hi)
  | _ => false
/-- one to three small letters that ascend -/
def ascL : List Nat → Bool
  | a :: b :: l => decide (a < b) && ascL (b :: l)
  | _ => true
def alL (cs : List Nat) : Bool := decide (1 ≤ cs.length ∧ cs.length ≤ 3) && cs.all (fun c => decide (97 ≤ c ∧ c ≤ 122)) && ascL cs
def alB : V → Bool
  | .str z => alL z.cps.toList
  | _ => false
theorem asc_pw : ∀ {cs : List Nat}, ascL cs = true ↔ ∀ k, k + 1 < cs.length → cs.getD k 0 < cs.getD (k + 1) 0
  | [] => by simp [ascL]
  | [a] => by
    simp only [ascL, true_iff]
    intro k h
    simp at h
  | a :: b :: l => by
    simp only [ascL, Bool.and_eq_true, decide_eq_true_iff]
    rw [asc_pw (cs := b :: l)]
    constructor
    · rintro ⟨h1, h2⟩ k hk
      cases k with
      | zero => exact h1
      | succ k => exact h2 k (by simpa using hk)
    · intro h
      exact ⟨h 0 (by simp), fun k hk => h (k + 1) (by simpa using hk)⟩
theorem pw_asc : ∀ {cs : List Nat}, cs.Pairwise (· < ·) → ascL cs = true
  | [], _ => rfl
  | [a], _ => rfl
  | a :: b :: l, h => by
    simp only [ascL, Bool.and_eq_true, decide_eq_true_iff]
    obtain ⟨h1, h2⟩ := List.pairwise_cons.mp h
    exact ⟨h1 b (by simp), pw_asc h2⟩
theorem AlOk.alB {al : List Nat} (h : AlOk al) : alB (.str (SX.S al)) = true := by
  have e : (SX.S al).cps.toList = al := by simp [SX.S]
  show alL (SX.S al).cps.toList = true
  rw [e]
  simp only [alL, Bool.and_eq_true, decide_eq_true_iff, List.all_eq_true]
  exact ⟨⟨⟨h.pos, h.le⟩, fun c hc => h.small c hc⟩, pw_asc h.inc⟩
end U
namespace U
open PySem PySem.Spec PyProof.Rows L2
theorem lsB_sq (t : Bool) : lsB (if t = true then "tuple" else "list") = true := by cases t <;> decide
theorem Thg.kp {H H' : Hp} {x : V} {T : String} {B : Addr → Prop} (h : Thg H x T) (k : Kp B H H') (n : ∀ a o, H a = some o → B a → (∀ xs, o ≠ .lst xs) ∧ (∀ xs, o ≠ .tup xs) ∧ ∀ xs, o ≠ .dK xs) : Thg H' x T := by
  cases h with
  | non => exact .non
  | bl b => exact .bl b
  | int i => exact .int i
  | str z => exact .str z
  | lst h => exact .lst (k _ _ (fun z => (n _ _ h z).1 _ rfl) h)
  | tup h => exact .tup (k _ _ (fun z => (n _ _ h z).2.1 _ rfl) h)
  | dct h => exact .dct (k _ _ (fun z => (n _ _ h z).2.2 _ rfl) h)
/-- no list, tuple or dict at the places B -/
abbrev NoLs (B : Addr → Prop) (H : Hp) : Prop := ∀ a o, H a = some o → B a → (∀ xs, o ≠ .lst xs) ∧ (∀ xs, o ≠ .tup xs) ∧ ∀ xs, o ≠ .dK xs
theorem NoLs.ins {H : Hp} {p C dx : Addr} {fs : List (Str × V)} (h : H p = some (.ins C dx fs)) : NoLs (fun b => b = p) H := fun a o e z => by
  subst z
  rw [h] at e
  cases e
  exact ⟨fun _ z => (nomatch z), fun _ z => (nomatch z), fun _ z => (nomatch z)⟩
theorem kp_sq {H H' : Hp} {a : Addr} {t : Bool} {xs : List V} {B : Addr → Prop} (h : H a = some (sq t xs)) (k : Kp B H H') (n : NoLs B H) : H' a = some (sq t xs) :=
  k _ _ (fun z => by cases t with
    | false => exact (n _ _ h z).1 _ rfl
    | true => exact (n _ _ h z).2.1 _ rfl) h
/-- a row that is kept -/
def RowOk (H : Hp) (m n : Nat) (v : V) : Prop := ∃ (a : Addr) (t : Bool) (rw : List Nat), v = .ref a ∧ H a = some (sq t (rw.map vn)) ∧ rw.length = m ∧ ∀ u ∈ rw, u < n
/-- a row that is refused -/
def RowNo (H : Hp) (m n : Nat) (v : V) : Prop :=
  (∃ T, Thg H v T ∧ lsB T = false) ∨ ∃ (a : Addr) (t : Bool) (ys : List V), v = .ref a ∧ H a = some (sq t ys) ∧ ys.length ≤ 4000 ∧
    (ys.length ≠ m ∨ ((∀ y ∈ ys, ∃ T, Thg H y T) ∧ ∃ y ∈ ys, intB 0 ((n : Int) - 1) y = false))
/-- moves that are refused, and where -/
inductive MvBad (H : Hp) (m : Nat) : V → Int → Prop
  | kind {x : V} {T : String} (h : Thg H x T) (l : lsB T = false) : MvBad H m x (-1)
  | size {p : Addr} {t : Bool} {xs : List V} (h : H p = some (sq t xs)) (l : xs.length ≤ 4000) (b : ¬ (1 ≤ xs.length ∧ xs.length ≤ 60)) : MvBad H m (.ref p) (-1)
  | row {p : Addr} {t : Bool} {xs : List V} {i : Nat} {v : V} (h : H p = some (sq t xs)) (l : 1 ≤ xs.length) (b : xs.length ≤ 60) (g : ∀ j v, j < i → xs[j]? = some v → RowOk H m xs.length v) (e : xs[i]? = some v) (n : RowNo H m xs.length v) : MvBad H m (.ref p) (i : Int)
/-- good rooms that are refused, and where -/
def GdAt (xs : List V) (n j : Nat) : Prop := ∃ u : Nat, xs[j]? = some (vn u) ∧ u < n ∧ (0 < j → ∃ u' : Nat, xs[j - 1]? = some (vn u') ∧ u' < u)
def GdNo (H : Hp) (xs : List V) (n i : Nat) : Prop := ∃ y, xs[i]? = some y ∧ ((∃ T, Thg H y T ∧ intB 0 ((n : Int) - 1) y = false) ∨ ∃ u u' : Nat, y = vn u ∧ u < n ∧ 0 < i ∧ xs[i - 1]? = some (vn u') ∧ u ≤ u')
inductive GdBad (H : Hp) (n : Nat) : V → Int → Prop
  | kind {x : V} {T : String} (h : Thg H x T) (l : lsB T = false) : GdBad H n x (-1)
  | item {p : Addr} {t : Bool} {xs : List V} {i : Nat} (h : H p = some (sq t xs)) (l : xs.length ≤ 4000) (g : ∀ j, j < i → GdAt xs n j) (b : GdNo H xs n i) : GdBad H n (.ref p) (i : Int)
section
variable {H H' : Hp} {B : Addr → Prop} {m n : Nat} {v x : V} {i : Int}
theorem RowOk.kp (h : RowOk H m n v) (k : Kp B H H') (z : NoLs B H) : RowOk H' m n v := let ⟨a, t, rw', e, h1, h2, h3⟩ := h; ⟨a, t, rw', e, kp_sq h1 k z, h2, h3⟩
theorem RowNo.kp (h : RowNo H m n v) (k : Kp B H H') (z : NoLs B H) : RowNo H' m n v := by
  rcases h with ⟨T, h, l⟩ | ⟨a, t, ys, e, h, l, b⟩
  · exact .inl ⟨T, h.kp k z, l⟩
  · refine .inr ⟨a, t, ys, e, kp_sq h k z, l, b.imp id fun ⟨q1, q2⟩ => ⟨fun y hy => let ⟨T, hT⟩ := q1 y hy; ⟨T, hT.kp k z⟩, q2⟩⟩
theorem MvBad.kp (h : MvBad H m x i) (k : Kp B H H') (z : NoLs B H) : MvBad H' m x i := by
  cases h with
  | kind h l => exact .kind (h.kp k z) l
  | size h l b => exact .size (kp_sq h k z) l b
  | row h l b g e q => exact .row (kp_sq h k z) l b (fun j v hj he => (g j v hj he).kp k z) e (q.kp k z)
theorem GdBad.kp (h : GdBad H n x i) (k : Kp B H H') (z : NoLs B H) : GdBad H' n x i := by
  cases h with
  | kind h l => exact .kind (h.kp k z) l
  | item h l g b =>
    refine .item (kp_sq h k z) l g ?_
    obtain ⟨y, e, b⟩ := b
    exact ⟨y, e, b.imp (fun ⟨T, hT, q⟩ => ⟨T, hT.kp k z, q⟩) id⟩
theorem MvBad.same (h : MvBad H m x i) (s : Same H H') : MvBad H' m x i := h.kp (B := fun _ => False) (fun a o _ e => s a o e) fun _ _ _ z => z.elim
theorem GdBad.same (h : GdBad H n x i) (s : Same H H') : GdBad H' n x i := h.kp (B := fun _ => False) (fun a o _ e => s a o e) fun _ _ _ z => z.elim
end
/-- where a text stops being one; none: nowhere -/
def faultZ (al : List Nat) (most : Int) (cs : List Nat) : Option Int := if (cs.length : Int) > most then some (-1) else (cs.findIdx? fun c => decide (c ∉ al)).map fun i => (i : Int)
def faultV (al : List Nat) (most : Int) : V → Option Int
  | .str z => faultZ al most z.cps.toList
  | _ => some (-1)
def optI : Option Int → V
  | none => .non
  | some i => .int i
theorem str_of (z : Str) : ∃ cs : List Nat, z = SX.S cs := ⟨z.cps.toList, by
  cases z
  simp [SX.S]⟩
theorem S_cps (cs : List Nat) : (SX.S cs).cps.toList = cs := by simp [SX.S]
theorem intB_vn {n u : Nat} (h : u < n) : intB 0 ((n : Int) - 1) (vn u) = true := by
  show decide (_ ∧ _) = true
  rw [decide_eq_true_iff]
  omega
theorem findIdx_none {cs al : List Nat} : (cs.findIdx? fun c => decide (c ∉ al)) = none ↔ ∀ c ∈ cs, c ∈ al := by
  rw [List.findIdx?_eq_none_iff]
  simp
theorem iteIntNN {i : Int} {A B : Prop} (h : A) : if (!decide (V.int i = V.non)) = true then A else B := by
  rw [decide_eq_false (by intro z; cases z)]
  exact h
end U
namespace U
open PySem PySem.Spec PyProof.Rows L2
def IntsL (T : AS) (H : Hp) (p : Addr) (ns : List Nat) : Prop := ¬ T p ∧ H p = some (.lst (ns.map vn))
def RowsL (T : AS) (H : Hp) (p : Addr) (rs : List (List Nat)) : Prop := ¬ T p ∧ ∃ as, H p = some (.lst (as.map V.ref)) ∧ Paired (fun a r => IntsL T H a r) as rs
/-- a machine of lists -/
def MachL (T : AS) (H : Hp) (p : Addr) (rs : Rws) (gd : List Nat) : Prop := ¬ T p ∧ ∃ pm pg, H p = some (.tup [.ref pm, .ref pg]) ∧ RowsL T H pm rs ∧ IntsL T H pg gd
def IntsF (t : Bool) (T : AS) (H : Hp) (p : Addr) (ns : List Nat) : Prop := ¬ T p ∧ H p = some (sq t (ns.map vn))
def RowsF (t : Bool) (T : AS) (H : Hp) (p : Addr) (rs : List (List Nat)) : Prop := ¬ T p ∧ ∃ as, H p = some (sq t (as.map V.ref)) ∧ Paired (fun a r => Ints T H a r) as rs
section
variable {T T' : AS} {H H' : Hp} {p : Addr} {ns gd : List Nat} {rs : Rws} {t : Bool}
theorem IntsL.ints (h : IntsL T H p ns) : Ints T H p ns := ⟨h.1, false, h.2⟩
theorem RowsL.rows (h : RowsL T H p rs) : Rows T H p rs := let ⟨h1, as, h2, h3⟩ := h; ⟨h1, false, as, h2, Paired.mapP h3 fun _ _ z => z.ints⟩
theorem MachL.mach (h : MachL T H p rs gd) : Mach T H p rs gd := let ⟨h1, pm, pg, h2, h3, h4⟩ := h; ⟨h1, pm, pg, h2, h3.rows, h4.ints⟩
theorem IntsL.kp (h : IntsL T H p ns) (k : Kp T' H H') (i : ∀ b, T' b → T b) : IntsL T H' p ns := ⟨h.1, k _ _ (fun z => h.1 (i _ z)) h.2⟩
theorem RowsL.kp (h : RowsL T H p rs) (k : Kp T' H H') (i : ∀ b, T' b → T b) : RowsL T H' p rs := let ⟨h1, as, h2, h3⟩ := h; ⟨h1, as, k _ _ (fun z => h1 (i _ z)) h2, Paired.mapP h3 fun _ _ z => z.kp k i⟩
theorem MachL.kp (h : MachL T H p rs gd) (k : Kp T' H H') (i : ∀ b, T' b → T b) : MachL T H' p rs gd := let ⟨h1, pm, pg, h2, h3, h4⟩ := h; ⟨h1, pm, pg, k _ _ (fun z => h1 (i _ z)) h2, h3.kp k i, h4.kp k i⟩
theorem IntsL.weak (h : IntsL T H p ns) (i : ∀ b, T' b → T b) : IntsL T' H p ns := ⟨fun z => h.1 (i _ z), h.2⟩
theorem RowsL.weak (h : RowsL T H p rs) (i : ∀ b, T' b → T b) : RowsL T' H p rs := let ⟨h1, as, h2, h3⟩ := h; ⟨fun z => h1 (i _ z), as, h2, Paired.mapP h3 fun _ _ z => z.weak i⟩
theorem MachL.weak (h : MachL T H p rs gd) (i : ∀ b, T' b → T b) : MachL T' H p rs gd := let ⟨h1, pm, pg, h2, h3, h4⟩ := h; ⟨fun z => h1 (i _ z), pm, pg, h2, h3.weak i, h4.weak i⟩
theorem IntsL.same (h : IntsL T H p ns) (s : Same H H') : IntsL T H' p ns := h.kp (T' := fun _ => False) (.of_same s) (fun _ z => z.elim)
theorem RowsL.same (h : RowsL T H p rs) (s : Same H H') : RowsL T H' p rs := h.kp (T' := fun _ => False) (.of_same s) (fun _ z => z.elim)
theorem MachL.same (h : MachL T H p rs gd) (s : Same H H') : MachL T H' p rs gd := h.kp (T' := fun _ => False) (.of_same s) (fun _ z => z.elim)
theorem IntsL.ev (h : IntsL T H p ns) (e : Ev T H H') : IntsL T H' p ns := h.kp e.kp fun _ z => z
theorem RowsL.ev (h : RowsL T H p rs) (e : Ev T H H') : RowsL T H' p rs := h.kp e.kp fun _ z => z
theorem MachL.ev (h : MachL T H p rs gd) (e : Ev T H H') : MachL T H' p rs gd := h.kp e.kp fun _ z => z
/-- what stands is none of the places that are free -/
theorem IntsL.off (h : IntsL T H p ns) (o : ∀ b, T' b → H b = none) : IntsL T' H p ns := ⟨fun z => (by have := o _ z; rw [h.2] at this; cases this), h.2⟩
theorem RowsL.off (h : RowsL T H p rs) (o : ∀ b, T' b → H b = none) : RowsL T' H p rs := let ⟨h1, as, h2, h3⟩ := h; ⟨fun z => (by have := o _ z; rw [h2] at this; cases this), as, h2, Paired.mapP h3 fun _ _ z => z.off o⟩
theorem MachL.off (h : MachL T H p rs gd) (o : ∀ b, T' b → H b = none) : MachL T' H p rs gd := let ⟨h1, pm, pg, h2, h3, h4⟩ := h; ⟨fun z => (by have := o _ z; rw [h2] at this; cases this), pm, pg, h2, h3.off o, h4.off o⟩
/-- lists alone are changed: tuples and things stand -/
theorem IntsT.offL (h : IntsT T H p ns) (o : ∀ b, T' b → ∃ xs, H b = some (.lst xs)) : IntsT T' H p ns := ⟨fun z => (by obtain ⟨xs, e⟩ := o _ z; rw [h.2] at e; cases e), h.2⟩
theorem RowsT.offL (h : RowsT T H p rs) (o : ∀ b, T' b → ∃ xs, H b = some (.lst xs)) : RowsT T' H p rs := let ⟨h1, as, h2, h3⟩ := h; ⟨fun z => (by obtain ⟨xs, e⟩ := o _ z; rw [h2] at e; cases e), as, h2, Paired.mapP h3 fun _ _ z => z.offL o⟩
theorem Rd.offL {C : Addr} {al : List Nat} (h : Rd C T H p al rs gd) (o : ∀ b, T' b → ∃ xs, H b = some (.lst xs)) : Rd C T' H p al rs gd := let ⟨h1, dx, pm, pg, h2, h3, h4⟩ := h; ⟨fun z => (by obtain ⟨xs, e⟩ := o _ z; rw [h2] at e; cases e), dx, pm, pg, h2, h3.offL o, h4.offL o⟩
theorem IntsF.ints (h : IntsF t T H p ns) : Ints T H p ns := ⟨h.1, t, h.2⟩
theorem RowsF.rows (h : RowsF t T H p rs) : Rows T H p rs := let ⟨h1, as, h2, h3⟩ := h; ⟨h1, t, as, h2, h3⟩
end
/-- lists that are not among Z may change -/
def Lsts (Z : AS) (H : Hp) : AS := fun b => ¬ Z b ∧ ∃ xs, H b = some (.lst xs)
theorem kp_lst {Z : AS} {H H' : Hp} {a : Addr} {xs : List V} {o : HO} (k : Kp (Lsts Z H) H H') (h : H' a = some (.lst xs)) (n : ¬ Z a) : Kp (Lsts Z H) H (upd H' a o) := fun b u nb e => by
  by_cases hb : b = a
  · subst hb
    have := k b u nb e
    rw [h] at this
    cases this
    exact absurd ⟨n, xs, e⟩ nb
  · rw [upd_ne hb]
    exact k b u nb e
theorem kp_new {B : AS} {H H' : Hp} {a : Addr} {o : HO} (k : Kp B H H') (h : H a = none) : Kp B H (upd H' a o) := fun b u nb e => by
  rw [upd_ne (ne_of_none e h)]
  exact k b u nb e
theorem kp_laid {B : AS} {H H' : Hp} {a : Addr} {o : HO} (k : Kp B H H') (h : H' a = none) : Kp B H (upd H' a o) := fun b u nb e => by
  have := k b u nb e
  rw [upd_ne (ne_of_none this h)]
  exact this
section
variable {K : PySem.W.Frag} {H : Hp} {T T' : AS} {p q : Addr} {Q : VK}
theorem i_neInts {a b : List Nat} (h : IntsT T H p a) (h' : IntsT T' H q b) (k : Q (.bl (!decide (a = b))) H) : rNeD K (.ref p) (.ref q) H Q := ⟨_, _, h.dp, h'.dp, shaped_ints _, shaped_ints _, by rw [eqv_dInts]; exact k⟩
theorem i_neRows {a b : Rws} (h : RowsT T H p a) (h' : RowsT T' H q b) (k : Q (.bl (!decide (a = b))) H) : rNeD K (.ref p) (.ref q) H Q := ⟨_, _, h.dp, h'.dp, shaped_rows _, shaped_rows _, by rw [eqv_dRows]; exact k⟩
theorem getD_inj {al : List Nat} (hn : al.Nodup) {a b : Nat} (ha : a < al.length) (hb : b < al.length) (e : al.getD a 0 = al.getD b 0) : a = b := by
  rw [List.getD_eq_getElem?_getD, List.getD_eq_getElem?_getD, List.getElem?_eq_getElem ha, List.getElem?_eq_getElem hb] at e
  exact (List.getElem_inj hn).mp e
theorem word_uniq {al z : List Nat} (hn : al.Nodup) : ∀ {w w' : List Nat}, Word al w z → Word al w' z → w = w' := by
  intro w w' h h'
  have hl : w.length = w'.length := h.len.symm.trans h'.len
  refine List.ext_getElem hl fun i h1 h2 => ?_
  have e : (w.map fun a => al.getD a 0)[i]'(by rw [List.length_map]; exact h1) = (w'.map fun a => al.getD a 0)[i]'(by rw [List.length_map]; exact h2) := by
    have : (w.map fun a => al.getD a 0) = w'.map fun a => al.getD a 0 := h.2.symm.trans h'.2
    simp only [this]
  rw [List.getElem_map, List.getElem_map] at e
  exact getD_inj hn (h.1 _ (List.getElem_mem h1)) (h'.1 _ (List.getElem_mem h2)) e
theorem Rd.toS {C : Addr} {S : AS} {al : List Nat} {rs : Rws} {gd : List Nat} (hS : Srcs S H) (h : Rd C T H p al rs gd) : Rd C S H p al rs gd := h.offL fun b hb => let ⟨x, y, z, e⟩ := hS b hb; ⟨_, e⟩
end
theorem cutV_from1 (xs : List V) : cutV xs (some 1) none = xs.drop 1 := by
  unfold cutV
  cases xs with
  | nil => rfl
  | cons x l =>
    have e1 : HT.sIx (x :: l).length 0 (some 1) = 1 := by
      simp [HT.sIx]
    have e2 : HT.sIx (x :: l).length (x :: l).length none = (x :: l).length := rfl
    rw [e1, e2]
    simp
theorem cutV_to (xs : List V) (k : Nat) : cutV xs none (some (k : Int)) = xs.take k := by
  unfold cutV
  have e1 : HT.sIx xs.length 0 none = 0 := rfl
  rw [e1, HT.sIx_nat, List.drop_zero, Nat.sub_zero]
  by_cases h : k ≤ xs.length
  · rw [Nat.min_eq_left h]
  · rw [Nat.min_eq_right (by omega), List.take_length, List.take_of_length_le (by omega)]
theorem cutV_from {xs : List V} {k : Nat} (h : k ≤ xs.length) : cutV xs (some (k : Int)) none = xs.drop k := by
  unfold cutV
  have e1 : HT.sIx xs.length xs.length none = xs.length := rfl
  rw [e1, HT.sIx_nat, Nat.min_eq_left h]
  exact List.take_of_length_le (by rw [List.length_drop]; omega)
end U
set_option maxHeartbeats 4000000
namespace X7
open PySem PySem.Spec PyProof.Rows L2 U
section
variable {prog : Program} {w : World} {A : Around} {E : Value → Shared → Prop} {s : Shared} {K : PySem.W.Frag} {x C f : Addr} {ox : Obj} {od : Option Obj}
theorem len_K {Q : Value → Shared → Prop} (XK : K.In s.heap) (I : PySem.W.InstAt s.heap x ox C od) (hs : PySem.W.findIn K (.ref C) "__len__" = some (some (.ref f))) (hf : PySem.W.isFn K (.ref f) = true)
    (hcall : wpAny (model prog w) A.in1 (call (.ref f) [.ref x]) (fun r s' => ∃ n u, r = .int n u ∧ 0 ≤ n ∧ n < 2 ^ 63 ∧ Q (.int n s'.toks) { s' with toks := s'.toks + 1 }) E s) :
    wpAny (model prog w) A (call (.builtin "len") [.ref x]) Q E s := by
  refine Calls.call_function_entry kind_len plain_len entry_len (args_len1 _) ?_
  unfold Builtin.«len»
  refine wpAny_bind (m := oneArg "len" _) (wpAny_pure ?_)
  refine wpAny_bind (m := callSpecial? (.ref x) (Str.ofString "__len__")) (PySem.W.special_fn XK I hs (beq_iff_eq.mp hf) (wpAny_mono hcall (fun r s' hr => ?_) fun _ _ y => y))
  obtain ⟨n, u, rfl, h0, h1, hq⟩ := hr
  refine wpAny_bind (wpAny_holding (wpAny_pure ?_))
  refine wpAny_bind (wpAny_letGo ?_)
  show wpAny _ _ (if n < 0 then _ else _) _ _ _
  rw [if_neg (by omega)]
  show wpAny _ _ (if n ≥ 2 ^ 63 then _ else _) _ _ _
  rw [if_neg (by omega)]
  exact wpAny_bind (wpAny_mkInt (wpAny_pure ⟨_, rfl, hq⟩))
end
section
variable {X : Cx} {k j : Nat} {C : Addr} {sp : Sp} {E : XK}
def rOwnLen (C : Addr) (sp : Sp) (E : XK) : List V → Hp → VK → Prop := fun xs H Q => ∃ a dx fs, xs = [.ref a] ∧ H a = some (.ins C dx fs) ∧ sp [.ref a] H (fun z H' => ∃ n : Nat, z = .int (n : Int) ∧ n ≤ sizeLine ∧ Q (.int (n : Int)) H') E
theorem ownLen (c : OwnCal X.prog X.w X.K X.mg X.base k C "__len__" sp) (hr : Room j X.A) (hk : k + 1 ≤ j) : CallR X (.builtin "len") (rOwnLen C sp C8.E0) := by
  obtain ⟨f, fd, ps, F, o, hb⟩ := c.ex
  intro pins s σ H xs us Q I r h
  obtain ⟨a, dx, fs, rfl, ha, q⟩ := h
  obtain ⟨u, rfl, ru⟩ := vals1 r
  cases ru
  have hr1 : Room (k + 1) X.A := hr.mono hk
  obtain ⟨mA, J, _⟩ := ins_get I.hok ha
  obtain ⟨od, J, _⟩ := J.look
  have hl := F.len _ _ _ _ q
  refine len_K I.kIn J o.at_ o.fn ?_
  refine wpAny_call (codeAny_mono (F.run X.A.in1 X.stack s H ⟨[.ref a], []⟩ [.ref a] [.ref a] _ C8.E0 hr1.in1 I.env0.in1 (by
    have := hb s [.ref a] I.kIn (by simpa using hl)
    simpa using this) (.cons rfl .nil) q) fun r s' hq => ?_)
  cases r with
  | error e => exact hq.elim
  | ok fl =>
    cases fl with
    | ret w =>
      obtain ⟨z, H', I', rz, n, ez, hn, q'⟩ := I.after hq
      subst ez
      obtain ⟨t, rfl⟩ := rz
      have := line63
      have hs : sizeLine = 16777216 := sizeLine_eq
      exact ⟨_, _, rfl, by omega, by omega, .int _, H', I'.tok _, ⟨_, rfl⟩, q'⟩
    | next => exact False.elim hq
    | brk => exact False.elim hq
    | cont => exact False.elim hq
/-- own == where the other side may be of another kind -/
def rOwnEqX (K : PySem.W.Frag) (C : Addr) (sp : Sp) (E : XK) : R2 := fun x y H Q => ∃ a dx fs, x = .ref a ∧ H a = some (.ins C dx fs) ∧ ((∃ b dy gs, y = .ref b ∧ H b = some (.ins C dy gs)) ∨ ∃ T, TyX K H y (.type T) ∧ PySem.W.subIn K (.type T) (.ref C) = some false) ∧ sp [.ref a, y] H (fun z H' => ∃ c, z = .bl c ∧ Q (.bl c) H') E
theorem ownEqX (K : PySem.W.Frag) (hK : X.K = K) (c : OwnCal X.prog X.w X.K X.mg X.base k C "__eq__" sp) (hr : Room j X.A) (hk : k ≤ j) : OpR X (compareOp .Eq) (rOwnEqX K C sp C8.E0) := by
  subst hK
  obtain ⟨f, fd, ps, F, o, bd⟩ := c.ex
  intro pins s σ H x y v u Q I rx ry h
  obtain ⟨a, dx, fs, rfl, ha, hy, q⟩ := h
  cases rx
  obtain ⟨mA, J, _⟩ := ins_get I.hok ha
  obtain ⟨od, J, _⟩ := J.look
  obtain ⟨m, hF⟩ := I.fr
  show wpAny _ _ (richCompare .Eq (.ref a) u) _ _ _
  have hr' := hr.mono hk
  have r2 : Vals [V.ref a, y] [Value.ref a, u] := .cons rfl (.cons ry .nil)
  have z := run_fn (Q := fun z H' => ∃ c, z = .bl c ∧ Q (.bl c) H') F hr' bd .nil C8.pass0 I r2 (by exact q)
  have fin : wpAny (model X.prog X.w) X.A (call (.ref f) [.ref a, u]) (PySem.W.CmpBack (EP X pins σ Q)) X.xe s := thn z fun r s' ⟨z, H', I', rz, c, ez, q'⟩ => by
    subst ez
    cases rz
    exact ⟨.bl c, H', I', rfl, q'⟩
  rcases hy with ⟨b, dy, gs, rfl, hb⟩ | ⟨T, ty, hs⟩
  · cases ry
    obtain ⟨mB, J', _⟩ := ins_get I.hok hb
    obtain ⟨od', J', _⟩ := J'.look
    exact PySem.W.cmp_K (op := .Eq) (tb := .ref C) hr.units0 hF I.ok.mod.kin J J'.type (by simp [PySem.W.notFirst]) o.at_ o.fn fin
  · obtain ⟨P, kt, hp, _⟩ := kit_of I ry ty
    exact PySem.W.cmp_K (op := .Eq) (tb := .type T) hr.units0 hF I.ok.mod.kin J (kt.ty _ _ I.kIn hp) (by simp [PySem.W.notFirst, hs]) o.at_ o.fn fin
end
section
variable {X : Cx} {C : Addr}
/-- isinstance(x, C) for an own class C: an own thing, or one of another kind -/
def rIsCX (K : PySem.W.Frag) (C : Addr) : List V → Hp → VK → Prop := fun xs H Q => (∃ a dx fs, xs = [.ref a, .ref C] ∧ H a = some (.ins C dx fs) ∧ Q (.bl true) H) ∨ rIsi K xs H Q
theorem call_isCX (K : PySem.W.Frag) (hK : X.K = K) (c : C8.InsC K C) : CallR X (.builtin "isinstance") (rIsCX K C) := by
  subst hK
  intro pins s σ H xs us Q I r h
  rcases h with h | h
  · exact C8.call_isC c pins s σ H xs us Q I r h
  · exact call_isi pins s σ H xs us Q I r h
end
theorem huH {k : Nat} {A : Around} (h : L2H.RoomH k A) : A.units + 64 < cLine := by
  have := h.un
  omega
section
variable {K : PySem.W.Frag} {H H' : Hp}
theorem sqL_same {a : Addr} {xs : List V} (h : SqL K H a xs) (e : Same H H') : SqL K H' a xs := h.imp (fun z => z.imp (e _ _) fun ⟨o, q⟩ => ⟨o, e _ _ q⟩) id
theorem sqT_same {a : Addr} {xs : List V} (h : SqT K H a xs) (e : Same H H') : SqT K H' a xs :=
  h.imp (fun z => z.imp (e _ _) fun ⟨o, q⟩ => ⟨o, e _ _ q⟩) id
mutual
theorem dp_same (s : Same H H') : ∀ (d : PyData) (v : V), Dp K H v d → Dp K H' v d
  | .none, _, h => by cases h; exact .non
  | .bool b, _, h => by cases h; exact .bl _
  | .int i, _, h => by cases h; exact .int _
  | .str x, _, h => by cases h; exact .str _
  | .list ds, _, h => by
    cases h with
    | lst h1 h2 => exact .lst (sqL_same h1 s) (dpAll_same s ds _ h2)
  | .tuple ds, _, h => by
    cases h with
    | tup h1 h2 => exact .tup (sqT_same h1 s) (dpAll_same s ds _ h2)
  | .dict kvs, _, h => by cases h
theorem dpAll_same (s : Same H H') : ∀ (ds : List PyData) (vs : List V), DpAll K H vs ds → DpAll K H' vs ds
  | [], _, h => by cases h; exact .nil
  | d :: ds, _, h => by
    cases h with
    | cons h1 h2 => exact .cons (dp_same s d _ h1) (dpAll_same s ds _ h2)
end
end
/-- a text times a whole number -/
def rSMul : R2 := fun x y H Q => ∃ (z : Str) (n : Int), x = .str z ∧ y = .int n ∧ MulOk z n ∧ Q (.str (Txt.mul z n)) H
theorem op_strMul {X : Cx} : OpR X (binaryOp .Mult) rSMul := by
  intro pins s σ H x y v u Q I rx ry h
  obtain ⟨z, n, rfl, rfl, hok, q⟩ := h
  obtain ⟨t, rfl⟩ := rx
  obtain ⟨t', rfl⟩ := ry
  exact SB.mul hok fun t'' k => ⟨.str _, H, I.tok _, ⟨_, rfl⟩, q⟩
theorem i_sMul {z : Str} {n : Int} {H : Hp} {Q : VK} (hok : MulOk z n) (q : Q (.str (Txt.mul z n)) H) : rSMul (.str z) (.int n) H Q := ⟨z, n, rfl, rfl, hok, q⟩
end X7
namespace U
open PySem PySem.Spec PyProof.Rows L2
def dRowsL (rs : Rws) : PyData := .list (rs.map dIntsL)
section
variable {K : PySem.W.Frag} {H : Hp} {p q : Addr} {Q : VK}
theorem dp_rowsL : ∀ {as : List Addr} {rs : Rws}, Paired (fun a r => H a = some (.lst (r.map vn))) as rs → DpAll K H (as.map V.ref) (rs.map dIntsL)
  | _, _, .nil => .nil
  | _, _, .cons h t => .cons (dp_intsL h) (dp_rowsL t)
theorem eqvAll_rowsL : ∀ a b : Rws, PyData.eqvAll (a.map dIntsL) (b.map dIntsL) = decide (a = b)
  | [], [] => by simp [PyData.eqvAll]
  | [], _ :: _ => by simp [PyData.eqvAll]
  | _ :: _, [] => by simp [PyData.eqvAll]
  | x :: a, y :: b => by
    rw [List.map_cons, List.map_cons, PyData.eqvAll, eqvAll_rowsL a b, eqv_dIntsL]
    by_cases h : x = y
    · subst h; simp
    · simp [h]
theorem lay_rowsL : ∀ a : Rws, PyData.canLayAll0 (a.map dIntsL) = true ∧ PyData.depthAll (a.map dIntsL) ≤ 1
  | [] => by simp [PyData.canLayAll0, PyData.depthAll]
  | x :: a => by
    have h := lay_rowsL a
    have hx := lay_ints x
    rw [List.map_cons, PyData.canLayAll0, PyData.depthAll, h.1, dIntsL, PyData.canLay0, PyData.depth, hx.1, hx.2]
    exact ⟨rfl, Nat.max_le.mpr ⟨by omega, h.2⟩⟩
theorem shaped_rowsL (a : Rws) : SeqAt.shaped (dRowsL a) = true := by
  have h := lay_rowsL a
  unfold SeqAt.shaped
  rw [dRowsL, PyData.canLay0, PyData.depth, h.1, Bool.true_and]
  exact decide_eq_true (by omega)
theorem i_eqRowsL {as bs : List Addr} {a b : Rws} (h : H p = some (.lst (as.map V.ref))) (hp : Paired (fun a r => H a = some (.lst (r.map vn))) as a) (h' : H q = some (.lst (bs.map V.ref))) (hq : Paired (fun a r => H a = some (.lst (r.map vn))) bs b) (k : Q (.bl (decide (a = b))) H) : rEqD K (.ref p) (.ref q) H Q :=
  ⟨dRowsL a, dRowsL b, .lst (SqL.of h) (dp_rowsL hp), .lst (SqL.of h') (dp_rowsL hq), shaped_rowsL _, shaped_rowsL _, by rw [dRowsL, dRowsL, PyData.eqv, eqvAll_rowsL]; exact k⟩
theorem i_unl2 {n : Nat} {t1 t2 : TG} {a : Addr} {x y : V} {σ : L2.St} {QS : L2.St → Hp → Prop} (h : H a = some (.lst [x, y])) (e : 2 = n) (q : t1 x σ H fun σ' H' => t2 y σ' H' QS) : gUnl K n (gCons t1 (gCons t2 gNil)) (.ref a) σ H QS :=
  ⟨a, [x, y], rfl, SqL.of h, e, by
    simp only [gCons_eq, gNil_eq]
    exact q⟩
end
theorem paired2 {α β : Type} {F : α → β → Prop} {xs : List α} {a b : β} (h : Paired F xs [a, b]) : ∃ x y, xs = [x, y] ∧ F x a ∧ F y b := by
  cases h with
  | cons h1 t => cases t with
    | cons h2 t => cases t with
      | nil => exact ⟨_, _, rfl, h1, h2⟩
theorem old_upd {H : Hp} {p : Addr} {o : HO} {b : Addr} (h : Old H b) : Old (upd H p o) b := by
  by_cases e : b = p
  · subst e; exact ⟨_, upd_same⟩
  · obtain ⟨u, hu⟩ := h
    exact ⟨u, by rw [upd_ne e]; exact hu⟩
section
variable {T T' : AS} {H H' : Hp} {p : Addr} {ns : List Nat} {rs : Rws} {t : Bool}
theorem IntsF.kp (h : IntsF t T H p ns) (k : Kp T' H H') (i : ∀ b, T' b → T b) : IntsF t T H' p ns := ⟨h.1, k _ _ (fun z => h.1 (i _ z)) h.2⟩
theorem RowsF.kp (h : RowsF t T H p rs) (k : Kp T' H H') (i : ∀ b, T' b → T b) : RowsF t T H' p rs := let ⟨h1, as, h2, h3⟩ := h; ⟨h1, as, k _ _ (fun z => h1 (i _ z)) h2, Paired.mapP h3 fun _ _ z => z.kp k i⟩
theorem IntsF.same (h : IntsF t T H p ns) (s : Same H H') : IntsF t T H' p ns := h.kp (T' := fun _ => False) (.of_same s) (fun _ z => z.elim)
theorem RowsF.same (h : RowsF t T H p rs) (s : Same H H') : RowsF t T H' p rs := h.kp (T' := fun _ => False) (.of_same s) (fun _ z => z.elim)
end
theorem ev_spoilt {S : AS} {H8 H' H4 H5 : Hp} (hS : Srcs S H8) (e' : Ev S H8 H') (e4 : Ev S H8 H4) (k5 : Kp (Lsts (Old H') H4) H4 H5) : Ev S H8 H5 :=
  ⟨fun b o n h => k5 b o (fun z => z.1 (e'.old hS ⟨o, h⟩)) (e4.kp b o n h), fun a ha => let ⟨x, y, z, h⟩ := e4.src a ha; ⟨x, y, z, k5 _ _ (fun z' => z'.1 (e'.src.old ha)) h⟩⟩
theorem rd_spoilt {C : Addr} {T S Z : AS} {H4 H5 : Hp} {b : Addr} {al : List Nat} {rs : Rws} {gd : List Nat} (h : Rd C T H4 b al rs gd) (k5 : Kp (Lsts Z H4) H4 H5) (hS : Srcs S H5) : Rd C S H5 b al rs gd := ((h.offL fun _ hb => hb.2).kp k5 fun _ z => z).toS hS
end U
namespace X7
open PySem PySem.Spec PyProof.Rows L2 U
theorem unlK {X : Cx} (K : PySem.W.Frag) (h : X.K = K) {es : List Expr} {k : Nat} {t : TGs} {n : Nat} {pos : Pos} (hc : X.calm = true) (hg : PGs X es t) (hn : (assignEach es X.env).length = n := by rfl) (hst : (assignEach es X.env).findIdx? (·.1) = none := by rfl) : PG X (.Tuple es k pos) (gUnl K n t) := by
  subst h
  exact pg_unl hc hg hn hst
end X7
namespace X
open PySem PySem.Spec PyProof.Rows L2 C8 U X7
local macro_rules | `(tactic| walk_at "hp") => `(tactic| first
  | assumption | exact upd_same
  | (rw [upd_ne (by first | assumption | (apply Ne.symm; assumption))]; walk_at "hp"))
local macro_rules | `(tactic| walk_at "sd") => `(tactic| first
  | assumption | exact ⟨by omega, by omega⟩ | exact Or.inl ⟨by omega, by omega⟩ | exact Or.inr ⟨by omega, by omega⟩
  | (show (0 : Int) < _; omega) | (show (0 : Int) ≤ _; omega) | (show _ ≠ (0 : Int); omega))
local macro_rules | `(tactic| walk_at "st") => `(tactic| first
  | with_reducible refine i_seq ?_ | with_reducible refine i_asg ?_ | with_reducible refine i_C ?_
  | ((with_reducible refine i_var (v := ?v) ?e ?_); (case e => exact rfl))
  | ((with_reducible refine i_name (σ' := ?v) ?e ?_); (case e => exact rfl))
  | with_reducible refine i_op ?_ | with_reducible refine i_un ?_ | with_reducible refine i_rI0 ?_ | with_reducible refine i_rU ?_
  | ((with_reducible refine i_rI ?c ?_); (case c => walk_at "sd"))
  | with_reducible refine i_eqI ?_ | with_reducible refine i_neI ?_ | with_reducible refine i_eqS ?_ | with_reducible refine i_neS ?_ | with_reducible refine i_eqB ?_ | with_reducible refine i_neB ?_
  | with_reducible refine i_for ?_ | with_reducible refine i_lc ?_ | with_reducible refine i_lc2 ?_ | with_reducible refine i_dc ?_ | with_reducible refine i_sortSet ?_ | with_reducible refine i_iSeq ?_ | with_reducible refine i_iRng1 ?_ | with_reducible refine i_iRng2 ?_ | with_reducible refine i_iStr ?_ | with_reducible refine i_iEnumS ?_ | with_reducible refine i_iEnumR ?_
  | with_reducible refine i_revL ?_ | with_reducible refine i_chain ?_ | with_reducible refine ex_str ?_ | with_reducible refine ex_str1 ?_ | with_reducible refine i_m1 ?_ | with_reducible refine i_bms ?_
  | with_reducible refine i_CB ?_ | with_reducible refine i_nil ?_ | with_reducible refine i_cons ?_ | with_reducible refine i_call ?_ | with_reducible refine i_make ?_
  | with_reducible refine i_ret ?_ | with_reducible refine i_retN ?_ | with_reducible refine i_drop ?_ | with_reducible refine i_ifS ?_ | with_reducible refine i_test ?_ | with_reducible refine i_tB ?_
  | with_reducible refine i_and ?_ | with_reducible refine i_or ?_ | with_reducible refine i_not ?_ | with_reducible refine i_andV ?_ | with_reducible refine i_orV ?_ | with_reducible refine i_notV ?_ | with_reducible refine i_if ?_
  | with_reducible refine i_tup ?_ | with_reducible refine i_lst ?_ | with_reducible refine i_sub ?_ | with_reducible refine i_next ?_ | with_reducible refine i_fld ?_ | with_reducible refine i_bm ?_
  | with_reducible refine iteIN ?_ | with_reducible refine iteF ?_ | with_reducible refine iteT ?_ | with_reducible refine iteNF ?_ | with_reducible refine iteNT ?_
  | ((with_reducible refine i_wipe ?e ?_); (case e => exact rfl)) | with_reducible refine i_yes ?_ | with_reducible refine ex_bl ?_ | with_reducible refine i_int1 ?_ | with_reducible refine ex_int ?_
  | ((with_reducible refine i_lenN ?h ?_); (case h => walk_at "hp"))
  | with_reducible refine i_sfld ?_ | with_reducible refine i_dget ?_ | with_reducible refine i_din ?_ | with_reducible refine i_dnotin ?_ | with_reducible refine i_dput ?_ | with_reducible refine i_dnewK ?_ | with_reducible refine i_disp1 ?_
  | with_reducible refine i_nget ?_ | with_reducible refine i_nin ?_ | with_reducible refine i_nnotin ?_ | with_reducible refine i_nput ?_ | with_reducible refine i_dnewN ?_
  | with_reducible refine i_callS ?_ | with_reducible refine i_makeS ?_ | with_reducible refine i_methS ?_ | with_reducible refine i_inX ?_ | with_reducible refine i_ownbin ?_ | with_reducible refine i_ownun ?_ | with_reducible refine i_raiseE ?_ | with_reducible refine i_mt ?_ | with_reducible refine i_xp ?_
  | with_reducible refine i_exS ?_ | with_reducible refine i_sl ?_ | with_reducible refine i_noPart ?_ | with_reducible refine i_part ?_ | with_reducible refine ex_intV ?_ | with_reducible refine i_lenSetG ?_ | with_reducible refine i_break ?_ | with_reducible refine i_isN ?_ | with_reducible refine i_notN ?_ | with_reducible refine iteNon ?_ | with_reducible refine iteNonN ?_ | with_reducible refine iteRefN ?_ | with_reducible refine iteRefNN ?_ | with_reducible refine iteStrN ?_ | with_reducible refine iteStrNN ?_ | with_reducible refine iteIntNN ?_
  | ((with_reducible refine i_gTup2 (x := ?x) (y := ?y) ?h ?e ?_); (case h => walk_at "hp"); (case e => rfl))
  | ((with_reducible refine i_gTup3 (x := ?x) (y := ?y) (z := ?z) ?h ?e ?_); (case h => walk_at "hp"); (case e => rfl))
  | with_reducible refine i_inSg ?_ | with_reducible refine i_notInSg ?_
  | with_reducible refine i_bmStr ?_ | ((with_reducible refine i_bmL (xs := ?x) ?h ?_); (case h => walk_at "hp"))
  | ((with_reducible refine i_lenL (xs := ?x) ?h ?_); (case h => walk_at "hp"))
  | ((with_reducible refine i_lenT (xs := ?x) ?h ?_); (case h => walk_at "hp"))
  | ((with_reducible refine i_ixL (xs := ?x) (v := ?v) ?h ?e ?_); (case h => walk_at "hp"); (case e => rfl))
  | ((with_reducible refine i_ixT (xs := ?x) (v := ?v) ?h ?e ?_); (case h => walk_at "hp"); (case e => rfl))
  | ((with_reducible refine i_setL (xs := ?x) (j := ?v) ?h ?e ?_); (case h => walk_at "hp"); (case e => rfl)))
local macro_rules | `(tactic| walk_at "go") => `(tactic| repeat walk_at "st")
abbrev s_is_integer : Stmt := top 18
theorem sc_is_integer : FnScope ["thing", "low", "high"] ["thing", "low", "high"] (fnScope s_is_integer) := ⟨rfl, rfl, rfl, by decide +kernel, rfl, by decide +kernel, by decide +kernel⟩
def sp_is_integer : Sp := fun vs H Q _ => ∃ (x : V) (lo hi : Int) (tn : String), vs = [x, .int lo, .int hi] ∧ Thg H x tn ∧ Q (.bl (intB lo hi x)) H
section
variable {P : Program} {w : World} {K : PySem.W.Frag} {mg : Str → Option Value} {base : Heap} {C : Addr} {r : Er}
set_option maxHeartbeats 4000000 in
theorem ok_is_integer {f : Addr} {fd : FuncData} (F : Def K mg "is_integer" s_is_integer f fd) (T : Txt K mg C r) (b : Binds K fd ["thing", "low", "high"] []) : Cal P w K mg base 1 "is_integer" (sp_is_integer) [] := by
  refine cal0 F b .nil sc_is_integer (fun vs H Q E h => ?_) (fun cdv A outer s H vs Q E hr h => ?_)
  · obtain ⟨_, _, _, _, rfl, _⟩ := h
    rfl
  · obtain ⟨x, lo, hi, tn, rfl, ty, k⟩ := h
    refine ⟨_, (pss_cons (ps_if (PW.pt (pw_or (pt_val (pe_callB (isiK K rfl) (by rfl) T.b_isinstance (by decide +kernel) (pa_cons (pv 0) (pa_cons (pe_bltn (v := .ty "bool") (u := .type "bool") (by rfl) T.b_bool (by decide +kernel) rfl) pa_nil)))) (pw_or1 (pt_not (pt_val (pe_callB (isiK K rfl) (by rfl) T.b_isinstance (by decide +kernel) (pa_cons (pv 0) (pa_cons (pe_bltn (v := .ty "int") (u := .type "int") (by rfl) T.b_int (by decide +kernel) rfl) pa_nil)))))))) (pss_one (ps_ret pe_bl)) pss_nil)
        (pss_one (ps_ret (pe_and (pe_cmpR op_ge (pv 0) (pv 1) (nomark _)) (pe_one (pe_or (pe_cmpR op_isN1 (pv 2) pe_non (nomark _)) (pe_one (pe_cmpR op_le (pv 0) (pv 2) (nomark _))))))))), ?_⟩
    walk_at "go"
    cases ty with
    | bl b =>
      refine i_isiT (.bl b) (r := true) (by decide +kernel) ?_
      walk_at "go"
      exact k
    | int i =>
      refine i_isiT (.int i) (r := false) (by decide +kernel) ?_
      walk_at "go"
      refine i_isiT (.int i) (r := true) (by decide +kernel) ?_
      walk_at "go"
      refine iteD (fun h1 => ?_) (fun h1 => ?_)
      · walk_at "go"
        have e : decide (i ≤ hi) = intB lo hi (.int i) := by
          show _ = decide (lo ≤ i ∧ i ≤ hi)
          simp [h1]
        rw [e]
        exact k
      · have e : false = intB lo hi (.int i) := by
          show _ = decide (lo ≤ i ∧ i ≤ hi)
          simp [h1]
        rw [e]
        exact k
    | non =>
      refine i_isiT .non (r := false) (by decide +kernel) ?_
      walk_at "go"
      refine i_isiT .non (r := false) (by decide +kernel) ?_
      walk_at "go"
      exact k
    | str z =>
      refine i_isiT (.str z) (r := false) (by decide +kernel) ?_
      walk_at "go"
      refine i_isiT (.str z) (r := false) (by decide +kernel) ?_
      walk_at "go"
      exact k
    | lst h =>
      refine i_isiT (.lst h) (r := false) (by decide +kernel) ?_
      walk_at "go"
      refine i_isiT (.lst h) (r := false) (by decide +kernel) ?_
      walk_at "go"
      exact k
    | tup h =>
      refine i_isiT (.tup h) (r := false) (by decide +kernel) ?_
      walk_at "go"
      refine i_isiT (.tup h) (r := false) (by decide +kernel) ?_
      walk_at "go"
      exact k
    | dct h =>
      refine i_isiT (.dct h) (r := false) (by decide +kernel) ?_
      walk_at "go"
      refine i_isiT (.dct h) (r := false) (by decide +kernel) ?_
      walk_at "go"
      exact k
end
abbrev s_is_listed : Stmt := top 19
theorem sc_is_listed : FnScope ["thing"] ["thing"] (fnScope s_is_listed) := ⟨rfl, rfl, rfl, by decide +kernel, rfl, by decide +kernel, by decide +kernel⟩
def sp_is_listed : Sp := fun vs H Q _ => ∃ (x : V) (tn : String), vs = [x] ∧ Thg H x tn ∧ ∀ H', Same H H' → Q (.bl (lsB tn)) H'
section
variable {P : Program} {w : World} {K : PySem.W.Frag} {mg : Str → Option Value} {base : Heap} {C : Addr} {r : Er}
set_option maxHeartbeats 4000000 in
theorem ok_is_listed {f : Addr} {fd : FuncData} (F : Def K mg "is_listed" s_is_listed f fd) (T : Txt K mg C r) (b : Binds K fd ["thing"] []) : Cal P w K mg base 1 "is_listed" (sp_is_listed) [] := by
  refine cal0 F b .nil sc_is_listed (fun vs H Q E h => ?_) (fun cdv A outer s H vs Q E hr h => ?_)
  · obtain ⟨_, _, rfl, _⟩ := h
    rfl
  · obtain ⟨x, tn, rfl, ty, k⟩ := h
    refine ⟨_, (pss_one (ps_ret (pe_callB (isiTK K rfl) (by rfl) T.b_isinstance (by decide +kernel) (pa_cons (pv 0) (pa_cons (pe_tup (pa_cons (pe_bltn (v := .ty "tuple") (u := .type "tuple") (by rfl) T.b_tuple (by decide +kernel) rfl) (pa_cons (pe_bltn (v := .ty "list") (u := .type "list") (by rfl) T.b_list (by decide +kernel) rfl) pa_nil))) pa_nil))))), ?_⟩
    walk_at "go"
    refine ⟨by decide, fun tp htp => ?_⟩
    walk_at "go"
    exact i_isiLs (ty.same (same_laid htp)) upd_same (k _ (same_laid htp))
end
abbrev s_is_alphabet : Stmt := top 20
theorem sc_is_alphabet : FnScope ["thing", "letter", "k"] ["thing"] (fnScope s_is_alphabet) := ⟨rfl, rfl, rfl, by decide +kernel, rfl, by decide +kernel, by decide +kernel⟩
def AlStr (x : V) : Prop := ∀ z : Str, x = .str z → z.length ≤ 4000
def sp_is_alphabet : Sp := fun vs H Q _ => ∃ (x : V) (tn : String), vs = [x] ∧ Thg H x tn ∧ AlStr x ∧ ∀ H', Same H H' → Q (.bl (alB x)) H'
theorem small_iff {c : Nat} : c ∈ SMALL.cps.toList ↔ 97 ≤ c ∧ c ≤ 122 := by
  constructor
  · intro h
    have e : SMALL.cps.toList = (List.range 26).map (· + 97) := by decide +kernel
    rw [e] at h
    obtain ⟨i, hi, rfl⟩ := List.mem_map.mp h
    have := List.mem_range.mp hi
    omega
  · exact fun h => small_mem h
theorem any_small {cs : List Nat} : ((cs.map fun c => decide (c ∉ SMALL.cps.toList)).any id) = !(cs.all fun c => decide (97 ≤ c ∧ c ≤ 122)) := by
  induction cs with
  | nil => rfl
  | cons c l ih =>
    rw [List.map_cons, List.any_cons, ih, List.all_cons, Bool.not_and]
    congr 1
    by_cases h : 97 ≤ c ∧ c ≤ 122
    · show decide (c ∉ _) = !decide (97 ≤ c ∧ c ≤ 122)
      rw [decide_eq_true h, decide_eq_false (show ¬ (c ∉ SMALL.cps.toList) from not_not_intro (small_iff.mpr h))]
      rfl
    · show decide (c ∉ _) = !decide (97 ≤ c ∧ c ≤ 122)
      rw [decide_eq_false h, decide_eq_true (show c ∉ SMALL.cps.toList from fun z => h (small_iff.mp z))]
      rfl
theorem asc_all {cs : List Nat} : (((List.range (cs.length - 1)).map fun k => decide (cs.getD k 0 < cs.getD (k + 1) 0)).all id) = ascL cs := by
  rw [Bool.eq_iff_iff, asc_pw, List.all_eq_true]
  constructor
  · intro h k hk
    have := h (decide (cs.getD k 0 < cs.getD (k + 1) 0)) (List.mem_map.mpr ⟨k, List.mem_range.mpr (by omega), rfl⟩)
    exact decide_eq_true_iff.mp this
  · intro h b hb
    obtain ⟨k, hk, rfl⟩ := List.mem_map.mp hb
    exact decide_eq_true (h k (by have := List.mem_range.mp hk; omega))
theorem lt_one {a b : Nat} : decide ((⟨#[a]⟩ : Str).cps.toList < (⟨#[b]⟩ : Str).cps.toList) = decide (a < b) := by
  by_cases h : a < b
  · rw [decide_eq_true h, decide_eq_true (show _ < _ from List.Lex.rel h)]
  · rw [decide_eq_false h, decide_eq_false]
    intro z
    have z : ([a] : List Nat) < [b] := z
    cases z with
    | rel z => exact h z
    | cons z => cases z
theorem alB_str (cs : List Nat) : alB (.str (SX.S cs)) = alL cs := by
  show alL (SX.S cs).cps.toList = alL cs
  rw [S_cps]
section
variable {P : Program} {w : World} {K : PySem.W.Frag} {mg : Str → Option Value} {base : Heap} {C : Addr} {r : Er}
set_option maxHeartbeats 4000000 in
theorem ok_is_alphabet {f : Addr} {fd : FuncData} (F : Def K mg "is_alphabet" s_is_alphabet f fd) (T : Txt K mg C r) (b : Binds K fd ["thing"] []) : Cal P w K mg base 1 "is_alphabet" (sp_is_alphabet) [] := by
  refine cal0 F b .nil sc_is_alphabet (fun vs H Q E h => ?_) (fun cdv A outer s H vs Q E hr h => ?_)
  · obtain ⟨_, _, rfl, _⟩ := h
    rfl
  · obtain ⟨x, tn, rfl, ty, hz, k⟩ := h
    refine ⟨_, (pss_cons (ps_if (PW.pt (pw_or (pt_not (pt_val (pe_callB (isiK K rfl) (by rfl) T.b_isinstance (by decide +kernel) (pa_cons (pv 0) (pa_cons (pe_bltn (v := .ty "str") (u := .type "str") (by rfl) T.b_str (by decide +kernel) rfl) pa_nil))))) (pw_or1 (pt_not (pt_chain op_le op_le pe_int (pe_callB (lenK K rfl) (by rfl) T.b_len (by decide +kernel) (pa_cons (pv 0) pa_nil)) pe_int))))) (pss_one (ps_ret pe_bl)) pss_nil)
        (pss_cons (ps_if (pt_val (pe_callB (anyK K rfl rfl) (by rfl) T.b_any (by decide +kernel) (pa_cons (pe_lc (own := [("letter", 1)]) rfl sc_is_alphabet.nd (pi_str (pv 0)) (blkOk_by (by kernel_rfl)) (fun _ _ _ _ _ => (pg_name (i := 1) sc_is_alphabet.nd rfl (by first | exact Or.inl rfl | exact Or.inr rfl))) (fun _ _ _ _ _ => pts_nil) (fun _ _ _ _ _ => (pe_cmpR op_notInSg (pv 1) (pe_gc rfl T.c_SMALL) rfl))) pa_nil))) (pss_one (ps_ret pe_bl)) pss_nil)
        (pss_one (ps_ret (pe_callB (allK K rfl rfl) (by rfl) T.b_all (by decide +kernel) (pa_cons (pe_lc (own := [("k", 2)]) rfl sc_is_alphabet.nd (pi_range1 (by rfl) T.b_range (pa_cons (pe_op op_sub (pe_callB (lenK K rfl) (by rfl) T.b_len (by decide +kernel) (pa_cons (pv 0) pa_nil)) pe_int) pa_nil)) (blkOk_by (by kernel_rfl)) (fun _ _ _ _ _ => (pg_name (i := 2) sc_is_alphabet.nd rfl (by first | exact Or.inl rfl | exact Or.inr rfl))) (fun _ _ _ _ _ => pts_nil) (fun _ _ _ _ _ => (pe_cmpR op_lt_str (pe_ix (ixK K rfl) (pv 0) (pv 2) (fun _ _ => rfl)) (pe_ix (ixK K rfl) (pv 0) (pe_op op_add (pv 2) pe_int) (fun _ _ => rfl)) (nomark _)))) pa_nil)))))), ?_⟩
    walk_at "go"
    cases ty with
    | str z =>
      obtain ⟨al, rfl⟩ := str_of z
      refine i_isiT (.str _) (r := true) (by decide +kernel) ?_
      walk_at "go"
      have hl : (SX.S al).length = al.length := SX.S_len al
      have hz := hz _ rfl
      have hcs : (SX.S al).cps.size = al.length := hl
      rw [hl] at hz
      rw [alB_str] at k
      refine i_lenS (szl (by omega)) ?_
      walk_at "go"
      rw [hl]
      by_cases h1 : 1 ≤ al.length
      rotate_left
      · refine ite_df (by omega) ?_
        walk_at "go"
        have e : alL al = false := by simp [alL, h1]
        rw [e] at k
        exact k H (Same.refl H)
      refine ite_dt (by omega) ?_
      walk_at "go"
      by_cases h3 : al.length ≤ 3
      rotate_left
      · refine ite_ndt (by omega) ?_
        walk_at "go"
        have e : alL al = false := by simp [alL, h3]
        rw [e] at k
        exact k H (Same.refl H)
      refine ite_ndf (by omega) ?_
      walk_at "go"
      intro D hD
      refine str_lc (fun i H' => i ≤ al.length ∧ H' = upd H D (.lst (((al.take i).map fun c => decide (c ∉ SMALL.cps.toList)).map V.bl))) ⟨Nat.zero_le _, by simp⟩ (fun i c H' hc p => ?_) (fun H' p => ?_)
      · obtain ⟨hi, rfl⟩ := p
        have z : al[i]? = some c := by simpa [SX.S] using hc
        have hi' : i < al.length := (List.getElem?_eq_some_iff.mp z).1
        walk_at "go"
        walk_at "go"
        exact ⟨_, upd_same, szlt (by rw [List.length_map, List.length_map, List.length_take]; omega), hi', upd_lst (by rw [take_at z, List.map_append, List.map_append]; simp)⟩
      · obtain ⟨_, rfl⟩ := p
        walk_at "go"
        rw [hcs, List.take_length]
        refine i_any upd_same any_small ?_
        walk_at "go"
        cases hall : al.all fun c => decide (97 ≤ c ∧ c ≤ 122) with
        | false =>
          walk_at "go"
          have e : alL al = false := by simp only [alL, hall, Bool.and_false, Bool.false_and]
          rw [e] at k
          exact k _ (same_laid hD)
        | true =>
          walk_at "go"
          refine i_lenS (szl (by omega)) ?_
          walk_at "go"
          refine ⟨by omega, by omega, fun D2 hD2 => ?_⟩
          have e0 : (((SX.S al).length : Int) - 1).toNat = al.length - 1 := by omega
          refine rng0_lc (fun i H' => i ≤ al.length ∧ H' = upd (upd H D (.lst ((al.map fun c => decide (c ∉ SMALL.cps.toList)).map V.bl))) D2 (.lst (((List.range i).map fun k => decide (al.getD k 0 < al.getD (k + 1) 0)).map V.bl))) ⟨Nat.zero_le _, rfl⟩ (fun i H' hi p => ?_) (fun H' p => ?_)
          · obtain ⟨_, rfl⟩ := p
            have hi2 : i + 1 < al.length := by omega
            walk_at "go"
            have e1 : atI (SX.S al).cps.toList (i : Int) = some (al.getD i 0) := S_at (by rw [List.getD_eq_getElem?_getD, List.getElem?_eq_getElem (by omega)]; rfl)
            have e2 : atI (SX.S al).cps.toList ((i : Int) + 1) = some (al.getD (i + 1) 0) := S_at (i := i + 1) (by rw [List.getD_eq_getElem?_getD, List.getElem?_eq_getElem (by omega)]; rfl)
            refine i_ixS (szl (by omega)) e1 ?_
            walk_at "go"
            refine i_ixS (szl (by omega)) e2 ?_
            refine ⟨_, _, rfl, rfl, ?_⟩
            rw [lt_one]
            exact ⟨_, upd_same, szlt (by rw [List.length_map, List.length_map, List.length_range]; omega), by omega, upd_lst (by rw [List.range_succ, List.map_append, List.map_append]; rfl)⟩
          · obtain ⟨_, rfl⟩ := p
            walk_at "go"
            have e : alL al = ascL al := by simp only [alL, hall, Bool.and_true, decide_eq_true (show 1 ≤ al.length ∧ al.length ≤ 3 from ⟨h1, h3⟩), Bool.true_and]
            rw [e] at k
            refine i_all upd_same ?_ (k _ ((same_laid hD).trans (same_laid hD2)))
            first | exact asc_all | (rw [e0]; exact asc_all)
    | non =>
      refine i_isiT .non (r := false) (by decide +kernel) ?_
      walk_at "go"
      exact k H (Same.refl H)
    | bl b =>
      refine i_isiT (.bl b) (r := false) (by decide +kernel) ?_
      walk_at "go"
      exact k H (Same.refl H)
    | int i =>
      refine i_isiT (.int i) (r := false) (by decide +kernel) ?_
      walk_at "go"
      exact k H (Same.refl H)
    | lst h =>
      refine i_isiT (.lst h) (r := false) (by decide +kernel) ?_
      walk_at "go"
      exact k H (Same.refl H)
    | tup h =>
      refine i_isiT (.tup h) (r := false) (by decide +kernel) ?_
      walk_at "go"
      exact k H (Same.refl H)
    | dct h =>
      refine i_isiT (.dct h) (r := false) (by decide +kernel) ?_
      walk_at "go"
      exact k H (Same.refl H)
end
abbrev s_check_alphabet : Stmt := top 21
theorem sc_check_alphabet : FnScope ["thing"] ["thing"] (fnScope s_check_alphabet) := ⟨rfl, rfl, rfl, by decide +kernel, rfl, by decide +kernel, by decide +kernel⟩
def sp_check_alphabet (r : Er) : Sp := fun vs H Q E => ∃ (x : V) (tn : String), vs = [x] ∧ Thg H x tn ∧ AlStr x ∧ (alB x = true → ∀ H', Same H H' → Q .non H') ∧
  (alB x = false → ∀ d H', Same H H' → H d = none → H' d = some (.xd [("thing", x)]) → E (.ref r.BadAlphabet) (some d) H')
section
variable {P : Program} {w : World} {K : PySem.W.Frag} {mg : Str → Option Value} {base : Heap} {C : Addr} {r : Er}
set_option maxHeartbeats 4000000 in
theorem ok_check_alphabet {f : Addr} {fd : FuncData} (F : C8.Def K mg "check_alphabet" s_check_alphabet f fd) (T : Txt K mg C r) (b : Binds K fd ["thing"] []) (c_is_alphabet : Cal P w K mg base 1 "is_alphabet" sp_is_alphabet []) (e_BadAlphabet : MakE P w K mg base "BadAlphabet" r.BadAlphabet r.WrongThing "thing" (fun _ => True)) : CalX P w K mg base 4 "check_alphabet" (sp_check_alphabet r) := by
  refine calX F b sc_check_alphabet (fun vs H Q E h => ?_) (fun cdv A outer s H vs Q E hr h => ?_)
  · obtain ⟨_, _, rfl, _⟩ := h
    rfl
  · obtain ⟨x, tn, rfl, ty, hz, k1, k2⟩ := h
    refine ⟨_, (pss_one (ps_if (pt_not (pt_val (pe_c c_is_alphabet hr (by decide) rfl (pa_cons (pv 0) pa_nil)))) (pss_one (ps_raiseE rfl (takes_of rfl rfl rfl rfl) e_BadAlphabet hr (by decide) rfl (pa_cons (pv 0) pa_nil))) pss_nil)), ?_⟩
    walk_at "go"
    refine ⟨x, tn, rfl, ty, hz, fun H1 s1 => ?_⟩
    cases hb : alB x with
    | true =>
      walk_at "go"
      exact k1 hb H1 s1
    | false =>
      walk_at "go"
      refine mkE_end e_BadAlphabet.ic trivial (fun d hd => ?_)
      exact k2 hb d _ (s1.trans (same_laid hd)) (same_free s1 hd) upd_same
end
abbrev s_text_fault : Stmt := top 22
theorem sc_text_fault : FnScope ["alphabet", "thing", "most", "at", "letter"] ["alphabet", "thing", "most"] (fnScope s_text_fault) := ⟨rfl, rfl, rfl, by decide +kernel, rfl, by decide +kernel, by decide +kernel⟩
def sp_text_fault : Sp := fun vs H Q _ => ∃ (al : List Nat) (x : V) (most : Int) (tn : String), vs = [.str (SX.S al), x, .int most] ∧ Thg H x tn ∧ AlStr x ∧ ∀ H', Same H H' → Q (optI (faultV al most x)) H'
section
variable {P : Program} {w : World} {K : PySem.W.Frag} {mg : Str → Option Value} {base : Heap} {C : Addr} {r : Er}
set_option maxHeartbeats 4000000 in
theorem ok_text_fault {f : Addr} {fd : FuncData} (F : Def K mg "text_fault" s_text_fault f fd) (T : Txt K mg C r) (b : Binds K fd ["alphabet", "thing", "most"] []) : Cal P w K mg base 1 "text_fault" (sp_text_fault) [] := by
  refine cal0 F b .nil sc_text_fault (fun vs H Q E h => ?_) (fun cdv A outer s H vs Q E hr h => ?_)
  · obtain ⟨_, _, _, _, rfl, _⟩ := h
    rfl
  · obtain ⟨al, x, most, tn, rfl, ty, hz, k⟩ := h
    refine ⟨_, (pss_cons (ps_if (PW.pt (pw_or (pt_not (pt_val (pe_callB (isiK K rfl) (by rfl) T.b_isinstance (by decide +kernel) (pa_cons (pv 1) (pa_cons (pe_bltn (v := .ty "str") (u := .type "str") (by rfl) T.b_str (by decide +kernel) rfl) pa_nil))))) (pw_or1 (pt_cmpR op_gt (pe_callB (lenK K rfl) (by rfl) T.b_len (by decide +kernel) (pa_cons (pv 1) pa_nil)) (pv 2) (nomark _))))) (pss_one (ps_ret (pe_un un_neg pe_int))) pss_nil)
        (pss_cons (ps_for PassesOwn.never rfl (pi_enumS (by rfl) T.b_enumerate (pa_cons (pv 1) pa_nil)) (pg_tup rfl (pgs_cons (pg_name (i := 3) sc_text_fault.nd rfl (by first | exact Or.inl rfl | exact Or.inr rfl)) (pgs_cons (pg_name (i := 4) sc_text_fault.nd rfl (by first | exact Or.inl rfl | exact Or.inr rfl)) pgs_nil)))
        (pss_one (ps_if (pt_cmpR op_notInSg (pv 4) (pv 0) rfl) (pss_one (ps_ret (pv 3))) pss_nil)))
        (pss_one (ps_ret pe_non)))), ?_⟩
    walk_at "go"
    cases ty with
    | str z =>
      obtain ⟨cs, rfl⟩ := str_of z
      refine i_isiT (.str _) (r := true) (by decide +kernel) ?_
      walk_at "go"
      have hl : (SX.S cs).length = cs.length := SX.S_len cs
      have hz := hz _ rfl
      rw [hl] at hz
      have hf : faultV al most (.str (SX.S cs)) = faultZ al most cs := by
        show faultZ al most (SX.S cs).cps.toList = _
        rw [S_cps]
      rw [hf] at k
      refine i_lenS (szl (by omega)) ?_
      walk_at "go"
      rw [hl]
      refine iteD (fun hx => ?_) (fun hx => ?_)
      · walk_at "go"
        have e : faultZ al most cs = some (-1) := by
          unfold faultZ
          rw [if_pos (by omega)]
        rw [e] at k
        exact k H (Same.refl H)
      have e : faultZ al most cs = (cs.findIdx? fun c => decide (c ∉ al)).map fun i => (i : Int) := by
        unfold faultZ
        rw [if_neg (by omega)]
      rw [e] at k
      walk_at "go"
      refine enumS_for (fun i σ H' => ∃ x y, σ = [some (.str (SX.S al)), some (.str (SX.S cs)), some (.int most), x, y] ∧ Same H H' ∧ ∀ j c, j < i → cs[j]? = some c → c ∈ al) ⟨none, none, rfl, Same.refl H, fun j c h => by omega⟩ (fun i c TT σ H' hc hp hT => ?_) (fun σ H' hp => ?_)
      · obtain ⟨x, y, rfl, hs, hal⟩ := hp
        have hc' : cs[i]? = some c := by simpa [SX.S] using hc
        walk_at "go"
        by_cases hm : c ∈ al
        · refine ite_ndf hm ?_
          walk_at "go"
          refine ⟨_, _, rfl, hs.trans (same_laid hT), fun j c' hj hj' => ?_⟩
          by_cases e : j = i
          · rw [e, hc'] at hj'
            cases hj'
            exact hm
          · exact hal j c' (by omega) hj'
        · refine ite_ndt hm ?_
          walk_at "go"
          have e2 : (cs.findIdx? fun c => decide (c ∉ al)) = some i := by
            rw [List.findIdx?_eq_some_iff_getElem]
            have hi := (List.getElem?_eq_some_iff.mp hc').1
            refine ⟨hi, ?_, fun j hj => ?_⟩
            · rw [(List.getElem?_eq_some_iff.mp hc').2]
              exact decide_eq_true hm
            · have := hal j _ hj (List.getElem?_eq_getElem (by omega))
              simp [this]
          rw [e2] at k
          exact k _ (hs.trans (same_laid hT))
      · obtain ⟨x, y, rfl, hs, hal⟩ := hp
        walk_at "go"
        have e2 : (cs.findIdx? fun c => decide (c ∉ al)) = none := by
          rw [findIdx_none]
          intro c hc
          obtain ⟨j, hj⟩ := List.mem_iff_getElem?.mp hc
          have hj' := (List.getElem?_eq_some_iff.mp hj).1
          exact hal j c (by simpa [SX.S] using hj') hj
        rw [e2] at k
        exact k H' hs
    | non =>
      refine i_isiT .non (r := false) (by decide +kernel) ?_
      walk_at "go"
      exact k H (Same.refl H)
    | bl b =>
      refine i_isiT (.bl b) (r := false) (by decide +kernel) ?_
      walk_at "go"
      exact k H (Same.refl H)
    | int i =>
      refine i_isiT (.int i) (r := false) (by decide +kernel) ?_
      walk_at "go"
      exact k H (Same.refl H)
    | lst h =>
      refine i_isiT (.lst h) (r := false) (by decide +kernel) ?_
      walk_at "go"
      exact k H (Same.refl H)
    | tup h =>
      refine i_isiT (.tup h) (r := false) (by decide +kernel) ?_
      walk_at "go"
      exact k H (Same.refl H)
    | dct h =>
      refine i_isiT (.dct h) (r := false) (by decide +kernel) ?_
      walk_at "go"
      exact k H (Same.refl H)
end
abbrev s_check_text : Stmt := top 23
theorem sc_check_text : FnScope ["alphabet", "thing", "fault"] ["alphabet", "thing"] (fnScope s_check_text) := ⟨rfl, rfl, rfl, by decide +kernel, rfl, by decide +kernel, by decide +kernel⟩
def sp_check_text (r : Er) : Sp := fun vs H Q E => ∃ (al : List Nat) (x : V) (tn : String), vs = [.str (SX.S al), x] ∧ Thg H x tn ∧ AlStr x ∧ (faultV al 40 x = none → ∀ H', Same H H' → Q .non H') ∧
  (∀ i, faultV al 40 x = some i → ∀ d H', Same H H' → H d = none → H' d = some (.xd [("at", .int i)]) → E (.ref r.BadText) (some d) H')
theorem faultZ_le {al cs : List Nat} {most i : Int} (h : faultZ al most cs = some i) (hm : most ≤ 1000000) : -1 ≤ i ∧ i ≤ 1000000 := by
  unfold faultZ at h
  split at h
  · cases h
    exact ⟨by omega, by omega⟩
  · rename_i hx
    cases hf : cs.findIdx? (fun c => decide (c ∉ al)) with
    | none =>
      rw [hf] at h
      cases h
    | some j =>
      rw [hf] at h
      cases h
      obtain ⟨hj, _⟩ := List.findIdx?_eq_some_iff_getElem.mp hf
      have h2 : ((j : Nat) : Int) ≤ 1000000 := by omega
      exact ⟨by show -1 ≤ ((j : Nat) : Int); omega, h2⟩
theorem fmt_int {i : Int} (h : -1 ≤ i ∧ i ≤ 1000000) : FmtOk (.int i) := .inr ⟨i, rfl, by
  have h1 : i.natAbs ≤ 1000000 := by
    cases i with
    | ofNat n =>
      show n ≤ 1000000
      have : ((n : Nat) : Int) ≤ 1000000 := h.2
      omega
    | negSucc n =>
      show n + 1 ≤ 1000000
      have := h.1
      omega
  have h2 : i.natAbs < 2 ^ 1919 := Nat.lt_of_le_of_lt h1 (by decide)
  by_cases h0 : i.natAbs = 0
  · rw [h0]
    decide
  · exact Nat.lt_of_lt_of_le ((Nat.log2_lt h0).mpr h2) (by decide)⟩
theorem faultV_le {al : List Nat} {x : V} {i : Int} (h : faultV al 40 x = some i) : -1 ≤ i ∧ i ≤ 1000000 := by
  cases x with
  | str z => exact faultZ_le h (by decide)
  | _ =>
    have h : some (-1 : Int) = some i := h
    cases h
    decide
section
variable {P : Program} {w : World} {K : PySem.W.Frag} {mg : Str → Option Value} {base : Heap} {C : Addr} {r : Er}
set_option maxHeartbeats 4000000 in
theorem ok_check_text {f : Addr} {fd : FuncData} (F : C8.Def K mg "check_text" s_check_text f fd) (T : Txt K mg C r) (b : Binds K fd ["alphabet", "thing"] []) (c_text_fault : Cal P w K mg base 1 "text_fault" sp_text_fault []) (e_BadText : MakE P w K mg base "BadText" r.BadText r.WrongItem "at" FmtOk) : CalX P w K mg base 4 "check_text" (sp_check_text r) := by
  refine calX F b sc_check_text (fun vs H Q E h => ?_) (fun cdv A outer s H vs Q E hr h => ?_)
  · obtain ⟨_, _, _, rfl, _⟩ := h
    rfl
  · obtain ⟨al, x, tn, rfl, ty, hz, k1, k2⟩ := h
    refine ⟨_, (pss_cons (PS_nox (ps_set (i := 2) sc_check_text.nd rfl (by first | exact Or.inl rfl | exact Or.inr rfl) (pe_c c_text_fault hr (by decide) rfl (pa_cons (pv 0) (pa_cons (pv 1) (pa_cons (pe_gc rfl T.c_TEXT_LETTERS) pa_nil))))))
        (pss_one (ps_if (pt_cmpR op_notN1 (pv 2) pe_non (nomark _)) (pss_one (ps_raiseE rfl (takes_of rfl rfl rfl rfl) e_BadText hr (by decide) rfl (pa_cons (pv 2) pa_nil))) pss_nil))), ?_⟩
    walk_at "go"
    refine ⟨al, x, 40, tn, rfl, ty, hz, fun H1 s1 => ?_⟩
    cases hf : faultV al 40 x with
    | none =>
      rw [show optI none = V.non from rfl]
      walk_at "go"
      exact k1 hf H1 s1
    | some i =>
      rw [show optI (some i) = V.int i from rfl]
      walk_at "go"
      refine mkE_end e_BadText.ic (fmt_int (faultV_le hf)) (fun d hd => ?_)
      exact k2 i hf d _ (s1.trans (same_laid hd)) (same_free s1 hd) upd_same
end
abbrev s_checked_moves : Stmt := top 31
theorem sc_checked_moves : FnScope ["alphabet", "moves", "at", "row", "target"] ["alphabet", "moves"] (fnScope s_checked_moves) := ⟨rfl, rfl, rfl, by decide +kernel, rfl, by decide +kernel, by decide +kernel⟩
/-- such an error is raised -/
abbrev RaiseAt (C : Addr) (H : Hp) (E : XK) (f : Str) (v : V) : Prop := ∀ d H', Same H H' → H d = none → H' d = some (.xd [(f, v)]) → E (.ref C) (some d) H'
def MvGood (H : Hp) (Q : VK) (al : List Nat) (x : V) : Prop := ∃ (Z : AS) (p : Addr) (rs : Rws), x = .ref p ∧ TO Z H ∧ Rows Z H p rs ∧ WF al.length rs ∧ ∀ pm H', Same H H' → RowsT Z H' pm rs → Q (.ref pm) H'
def sp_checked_moves (r : Er) : Sp := fun vs H Q E => ∃ (al : List Nat) (x : V), vs = [.str (SX.S al), x] ∧ AlOk al ∧
  (MvGood H Q al x ∨ ∃ i : Int, MvBad H al.length x i ∧ RaiseAt r.BadMoves H E "at" (.int i))
theorem mv_shape {H : Hp} {Q : VK} {E : XK} {al : List Nat} {x : V} {C : Addr} (h : MvGood H Q al x ∨ ∃ i : Int, MvBad H al.length x i ∧ RaiseAt C H E "at" (.int i)) :
    (∃ tn, Thg H x tn ∧ lsB tn = false ∧ RaiseAt C H E "at" (.int (-1))) ∨ ∃ (p : Addr) (t : Bool) (xs : List V), x = .ref p ∧ H p = some (sq t xs) ∧ xs.length ≤ 4000 ∧
      ((¬ (1 ≤ xs.length ∧ xs.length ≤ 60) ∧ RaiseAt C H E "at" (.int (-1))) ∨ (1 ≤ xs.length ∧ xs.length ≤ 60 ∧ ∃ cut : Option Nat,
        (∀ j v, xs[j]? = some v → (∀ c, cut = some c → j ≤ c) → (cut ≠ some j ∧ RowOk H al.length xs.length v) ∨ (cut = some j ∧ RowNo H al.length xs.length v)) ∧
        (∀ c, cut = some c → c < xs.length ∧ RaiseAt C H E "at" (.int (c : Int))) ∧ (cut = none → MvGood H Q al x))) := by
  rcases h with h | ⟨i, h, hE⟩
  · obtain ⟨Z, p, rs, rfl, hT, hp, hw, k⟩ := id h
    obtain ⟨hZ, t, as, hv, hpa⟩ := id hp
    have hlen : (as.map V.ref).length = rs.length := by rw [List.length_map, hpa.length]
    have h1 := hw.pos
    have h2 := hw.le
    refine .inr ⟨p, t, _, rfl, hv, by omega, .inr ⟨by omega, by omega, none, fun j v hj _ => .inl ⟨(fun z => (by cases z)), ?_⟩, fun c z => (by cases z), fun _ => h⟩⟩
    obtain ⟨a, ha, rfl⟩ := at_map hj
    obtain ⟨rw', hrw, hia1, ti, hia2⟩ := Paired.at0 hpa ha
    have hm := List.mem_of_getElem? hrw
    exact ⟨a, ti, rw', rfl, hia2, hw.wid _ hm, fun u hu => by rw [hlen]; exact hw.lt _ hm u hu⟩
  · cases h with
    | kind h l => exact .inl ⟨_, h, l, hE⟩
    | size h l b => exact .inr ⟨_, _, _, rfl, h, l, .inl ⟨b, hE⟩⟩
    | @row p t xs i v h l b g e n =>
      refine .inr ⟨_, _, _, rfl, h, by omega, .inr ⟨l, b, some i, fun j w hj hc => ?_, fun c z => ?_, fun z => (by cases z)⟩⟩
      · have hji := hc i rfl
        by_cases ej : j = i
        · subst ej
          rw [hj] at e
          cases e
          exact .inr ⟨rfl, n⟩
        · exact .inl ⟨fun z => ej (Option.some.inj z).symm, g j w (by omega) hj⟩
      · cases z
        exact ⟨(List.getElem?_eq_some_iff.mp e).1, hE⟩
theorem all_no {ys : List V} {f : V → Bool} (h : ∃ y ∈ ys, f y = false) : (ys.map f).all id = false := by
  obtain ⟨y, hy, e⟩ := h
  rw [List.all_eq_false]
  exact ⟨f y, List.mem_map.mpr ⟨y, hy, rfl⟩, by rw [e]; decide⟩
section
variable {P : Program} {w : World} {K : PySem.W.Frag} {mg : Str → Option Value} {base : Heap} {C : Addr} {r : Er}
set_option maxHeartbeats 4000000 in
theorem ok_checked_moves {f : Addr} {fd : FuncData} (F : C8.Def K mg "checked_moves" s_checked_moves f fd) (T : Txt K mg C r) (b : Binds K fd ["alphabet", "moves"] []) (c_is_listed : Cal P w K mg base 1 "is_listed" sp_is_listed []) (c_is_integer : Cal P w K mg base 1 "is_integer" sp_is_integer []) (e_BadMoves : MakE P w K mg base "BadMoves" r.BadMoves r.WrongItem "at" FmtOk) : CalX P w K mg base 4 "checked_moves" (sp_checked_moves r) := by
  refine calX F b sc_checked_moves (fun vs H Q E h => ?_) (fun cdv A outer s H vs Q E hr h => ?_)
  · obtain ⟨_, _, rfl, _⟩ := h
    rfl
  · obtain ⟨al, x, rfl, ha, k⟩ := h
    refine ⟨_, (pss_cons (ps_if (PW.pt (pw_or (pt_not (pt_val (pe_c c_is_listed hr (by decide) rfl (pa_cons (pv 1) pa_nil)))) (pw_or1 (pt_not (pt_chain op_le op_le pe_int (pe_callB (lenK K rfl) (by rfl) T.b_len (by decide +kernel) (pa_cons (pv 1) pa_nil)) (pe_gc rfl T.c_MOST_ROOMS)))))) (pss_one (ps_raiseE rfl (takes_of rfl rfl rfl rfl) e_BadMoves hr (by decide) rfl (pa_cons (pe_un un_neg pe_int) pa_nil))) pss_nil)
        (pss_cons (ps_for (passes_of rfl) rfl (enumRK K rfl (by rfl) T.b_enumerate (pa_cons (pv 1) pa_nil)) (pg_tup rfl (pgs_cons (pg_name (i := 2) sc_checked_moves.nd rfl (by first | exact Or.inl rfl | exact Or.inr rfl)) (pgs_cons (pg_name (i := 3) sc_checked_moves.nd rfl (by first | exact Or.inl rfl | exact Or.inr rfl)) pgs_nil)))
        (pss_cons (ps_if (PW.pt (pw_or (pt_not (pt_val (pe_c c_is_listed hr (by decide) rfl (pa_cons (pv 3) pa_nil)))) (pw_or1 (pt_cmpR op_ne (pe_callB (lenK K rfl) (by rfl) T.b_len (by decide +kernel) (pa_cons (pv 3) pa_nil)) (pe_callB (lenK K rfl) (by rfl) T.b_len (by decide +kernel) (pa_cons (pv 0) pa_nil)) (nomark _))))) (pss_one (ps_raiseE rfl (takes_of rfl rfl rfl rfl) e_BadMoves hr (by decide) rfl (pa_cons (pv 2) pa_nil))) pss_nil)
        (pss_one (ps_if (pt_not (pt_val (pe_callB (allK K rfl rfl) (by rfl) T.b_all (by decide +kernel) (pa_cons (pe_lc (own := [("target", 4)]) rfl sc_checked_moves.nd (seqK K rfl (pv 3)) (blkOk_by (by kernel_rfl)) (fun _ _ _ _ _ => (pg_name (i := 4) sc_checked_moves.nd rfl (by first | exact Or.inl rfl | exact Or.inr rfl))) (fun _ _ _ _ _ => pts_nil) (fun _ _ _ _ _ => (pe_c c_is_integer hr (by decide) rfl (pa_cons (pv 4) (pa_cons pe_int (pa_cons (pe_op op_sub (pe_callB (lenK K rfl) (by rfl) T.b_len (by decide +kernel) (pa_cons (pv 1) pa_nil)) pe_int) pa_nil)))))) pa_nil)))) (pss_one (ps_raiseE rfl (takes_of rfl rfl rfl rfl) e_BadMoves hr (by decide) rfl (pa_cons (pv 2) pa_nil))) pss_nil))))
        (pss_one (PS_nox (ps_ret (pe_callTy (tupleK K rfl) (by rfl) T.b_tuple (by decide +kernel) (pa_cons (pe_lc (own := [("row", 3)]) rfl sc_checked_moves.nd (seqK K rfl (pv 1)) (blkOk_by (by kernel_rfl)) (fun _ _ _ _ _ => (pg_name (i := 3) sc_checked_moves.nd rfl (by first | exact Or.inl rfl | exact Or.inr rfl))) (fun _ _ _ _ _ => pts_nil) (fun _ _ _ _ _ => (pe_callTy (tupleK K rfl) (by rfl) T.b_tuple (by decide +kernel) (pa_cons (pv 3) pa_nil)))) pa_nil))))))), ?_⟩
    walk_at "go"
    have ha3 := ha.le
    have hl : (SX.S al).length = al.length := SX.S_len al
    rcases mv_shape k with ⟨tn, ty, hls, hE⟩ | ⟨p, t, xs, rfl, hv, hx4, hc⟩
    · refine ⟨x, tn, rfl, ty, fun H1 s1 => ?_⟩
      rw [hls]
      walk_at "go"
      refine mkE_end e_BadMoves.ic (fmt_int ⟨by omega, by omega⟩) (fun d hd => ?_)
      exact hE d _ (s1.trans (same_laid hd)) (same_free s1 hd) upd_same
    refine ⟨.ref p, _, rfl, .sq hv, fun H1 s1 => ?_⟩
    rw [lsB_sq]
    walk_at "go"
    refine i_lenQ (s1 _ _ hv) ?_
    walk_at "go"
    rcases hc with ⟨hb, hE⟩ | ⟨h1, h60, cut, hrow, hcut, hgood⟩
    · by_cases c1 : 1 ≤ xs.length
      · refine ite_dt (by show (1 : Int) ≤ _; omega) ?_
        walk_at "go"
        refine ite_ndt (by show ¬ _ ≤ (60 : Int); omega) ?_
        walk_at "go"
        refine mkE_end e_BadMoves.ic (fmt_int ⟨by omega, by omega⟩) (fun d hd => ?_)
        exact hE d _ (s1.trans (same_laid hd)) (same_free s1 hd) upd_same
      · refine ite_df (by show ¬ (1 : Int) ≤ _; omega) ?_
        walk_at "go"
        refine mkE_end e_BadMoves.ic (fmt_int ⟨by omega, by omega⟩) (fun d hd => ?_)
        exact hE d _ (s1.trans (same_laid hd)) (same_free s1 hd) upd_same
    refine ite_dt (by show (1 : Int) ≤ _; omega) ?_
    walk_at "go"
    refine ite_ndf (by show _ ≤ (60 : Int); omega) ?_
    walk_at "go"
    refine enumR_for (s1 _ _ hv) (fun i σ H' => ∃ x y, σ = [some (.str (SX.S al)), some (.ref p), x, y, none] ∧ Same H1 H' ∧ ∀ c, cut = some c → i ≤ c) ⟨none, none, rfl, Same.refl _, fun c _ => Nat.zero_le _⟩ (fun i σ H' _ ⟨_, _, _, e, _⟩ => e _ _ (s1 _ _ hv)) (fun i v TT σ H' hvi hp' hTT => ?_) (fun σ H' hp' => ?_)
    · obtain ⟨x, y, rfl, hs, hinv⟩ := hp'
      have hs' : Same H (upd H' TT (.tup [.int (i : Nat), v])) := (s1.trans hs).trans (same_laid hTT)
      have hi60 : i < xs.length := (List.getElem?_eq_some_iff.mp hvi).1
      rcases hrow i v hvi hinv with ⟨hne, a, ti, rw', rfl, hia, hwid, hlt⟩ | ⟨hci, hno⟩
      · walk_at "go"
        have hia2 := hs' _ _ hia
        refine ⟨.ref a, _, rfl, .sq hia2, fun H2 s2 => ?_⟩
        rw [lsB_sq]
        have s3 := hs'.trans s2
        have hia3 := s2 _ _ hia2
        have hv3 := s3 _ _ hv
        walk_at "go"
        refine i_lenQ hia3 ?_
        walk_at "go"
        refine i_lenS (szl (by omega)) ?_
        walk_at "go"
        refine ite_ndf (by rw [List.length_map]; omega) ?_
        walk_at "go"
        refine seq_lc hia3 (fun D hD => ⟨fun j H3 => j ≤ rw'.length ∧ H3 = upd H2 D (.lst (List.replicate j (.bl true))), ⟨Nat.zero_le _, rfl⟩, fun j H3 _ ⟨_, e⟩ => by rw [e, upd_ne (ne_of_none hia3 hD)]; exact hia3, fun j v H3 hvj hp3 => ?_, fun H3 hp3 => ?_⟩)
        · obtain ⟨_, rfl⟩ := hp3
          obtain ⟨u, hu, rfl⟩ := at_map hvj
          have hlt : u < xs.length := hlt u (List.mem_of_getElem? hu)
          have hj : j < rw'.length := (List.getElem?_eq_some_iff.mp hu).1
          walk_at "go"
          refine i_lenQ (by rw [upd_ne (ne_of_none hv3 hD)]; exact hv3) ?_
          walk_at "go"
          refine ⟨vn u, 0, _, "int", rfl, .int _, ?_⟩
          rw [intB_vn hlt]
          exact ⟨_, upd_same, szlt (by rw [List.length_replicate]; omega), hj, upd_lst (rep_snoc j (V.bl true))⟩
        · obtain ⟨_, rfl⟩ := hp3
          walk_at "go"
          refine i_all (bs := List.replicate _ true) (by rw [upd_same, map_rep]) (all_rep _) ?_
          walk_at "go"
          refine ⟨_, _, rfl, ((hs.trans (same_laid hTT)).trans s2).trans (same_laid hD), fun c hc => ?_⟩
          have := hinv c hc
          have : c ≠ i := fun e => hne (by rw [hc, e])
          omega
      · obtain ⟨_, hE⟩ := hcut i hci
        have hfmt : FmtOk (.int ((i : Nat) : Int)) := fmt_int ⟨by omega, by omega⟩
        rcases hno with ⟨tn, ty, hls⟩ | ⟨a, ti, ys, rfl, hia, hy4, hys⟩
        · walk_at "go"
          refine ⟨v, tn, rfl, ty.same hs', fun H2 s2 => ?_⟩
          rw [hls]
          walk_at "go"
          refine mkE_end e_BadMoves.ic hfmt (fun d hd => ?_)
          exact hE d _ ((hs'.trans s2).trans (same_laid hd)) (same_free (hs'.trans s2) hd) upd_same
        · walk_at "go"
          have hia2 := hs' _ _ hia
          refine ⟨.ref a, _, rfl, .sq hia2, fun H2 s2 => ?_⟩
          rw [lsB_sq]
          have s3 := hs'.trans s2
          have hia3 := s2 _ _ hia2
          have hv3 := s3 _ _ hv
          walk_at "go"
          refine i_lenQ hia3 ?_
          walk_at "go"
          refine i_lenS (szl (by omega)) ?_
          walk_at "go"
          by_cases hyl : ys.length = al.length
          · refine ite_ndf (by omega) ?_
            obtain ⟨hty, hbad⟩ := hys.resolve_left (fun z => z hyl)
            walk_at "go"
            refine seq_lc hia3 (fun D hD => ⟨fun j H3 => j ≤ ys.length ∧ H3 = upd H2 D (.lst (((ys.take j).map fun y => intB 0 ((xs.length : Int) - 1) y).map V.bl)), ⟨Nat.zero_le _, rfl⟩, fun j H3 _ ⟨_, e⟩ => by rw [e, upd_ne (ne_of_none hia3 hD)]; exact hia3, fun j v H3 hvj hp3 => ?_, fun H3 hp3 => ?_⟩)
            · obtain ⟨_, rfl⟩ := hp3
              have hj : j < ys.length := (List.getElem?_eq_some_iff.mp hvj).1
              obtain ⟨tn, ty⟩ := hty v (List.mem_of_getElem? hvj)
              walk_at "go"
              refine i_lenQ (by rw [upd_ne (ne_of_none hv3 hD)]; exact hv3) ?_
              walk_at "go"
              refine ⟨v, 0, _, tn, rfl, ty.same (s3.trans (same_laid hD)), ?_⟩
              exact ⟨_, upd_same, szlt (by rw [List.length_map, List.length_map, List.length_take]; omega), hj, upd_lst (by rw [take_at hvj, List.map_append, List.map_append]; rfl)⟩
            · obtain ⟨_, rfl⟩ := hp3
              walk_at "go"
              rw [List.take_length]
              refine i_all upd_same (all_no hbad) ?_
              walk_at "go"
              refine mkE_end e_BadMoves.ic hfmt (fun d hd => ?_)
              have s4 := s3.trans (same_laid (o := .lst ((ys.map fun y => intB 0 ((xs.length : Int) - 1) y).map V.bl)) hD)
              exact hE d _ (s4.trans (same_laid hd)) (same_free s4 hd) upd_same
          · refine ite_ndt (by omega) ?_
            walk_at "go"
            refine mkE_end e_BadMoves.ic hfmt (fun d hd => ?_)
            exact hE d _ (s3.trans (same_laid hd)) (same_free s3 hd) upd_same
    · obtain ⟨x, y, rfl, hs, hinv⟩ := hp'
      have hnone : cut = none := by
        cases hcc : cut with
        | none => rfl
        | some c =>
          have h1 := hinv c hcc
          have h2 := (hcut c hcc).1
          omega
      obtain ⟨Z, p', rs, ep, hT, hp, hw, k⟩ := hgood hnone
      cases ep
      obtain ⟨hZ, t, as, hv, hpa⟩ := id hp
      have hvl : (as.map V.ref).length = rs.length := by rw [List.length_map, hpa.length]
      have hle := hw.le
      have hpos := hw.pos
      walk_at "go"
      have s2 := s1.trans hs
      refine seq_lc (s2 _ _ hv) (fun D hD => ⟨fun j H3 => Same H' H3 ∧ ∃ bs, H3 D = some (.lst (bs.map V.ref)) ∧ Paired (fun a r => IntsT Z H3 a r) bs (rs.take j), ⟨same_laid hD, [], upd_same, by simp; exact .nil⟩, fun j H3 _ ⟨e, _⟩ => e _ _ (s2 _ _ hv), fun j v H3 hvj hp3 => ?_, fun H3 hp3 => ?_⟩)
      · obtain ⟨s3, bs, hD3, hbs⟩ := hp3
        obtain ⟨a, hva, rfl⟩ := at_map hvj
        obtain ⟨rw', hrw, hia1, ti, hia2⟩ := Paired.at0 hpa hva
        have hj : j < rs.length := (List.getElem?_eq_some_iff.mp hrw).1
        walk_at "go"
        refine i_tupleOf (s3 _ _ (s2 _ _ hia2)) (fun l H4 h1 h2 h3 => ?_)
        have hDl : l ≠ D := fun e => by
          rcases h3 with h3 | ⟨h3, _⟩
          · rw [e, hD3] at h3; cases h3
          · rw [← e, h3, s2 _ _ hia2] at hD; cases hD
        have hlZ : ¬ Z l := by
          rcases h3 with h3 | ⟨h3, _⟩
          · exact fun z => Old.none h3 (hT.same (s2.trans s3) l z)
          · rw [h3]; exact hia1
        refine ⟨_, h2 _ _ hD3, szlt (by rw [List.length_map, hbs.length, List.length_take]; omega), fun b o e => ?_, bs ++ [l], by rw [upd_same, List.map_append]; rfl, ?_⟩
        · rw [upd_ne (ne_of_none e hD)]
          exact h2 _ _ (s3 _ _ e)
        · rw [take_at hrw]
          have hk : Kp (fun b => b = D) H3 (upd H4 D (.lst (bs.map V.ref ++ [V.ref l]))) := fun b o n e => by
            rw [upd_ne n]
            exact h2 _ _ e
          refine U.Paired.snoc (Paired.mapP hbs fun b r z => ⟨z.1, ?_⟩) ⟨hlZ, by rw [upd_ne hDl]; exact h1⟩
          refine hk _ _ (fun e => ?_) z.2
          have := z.2
          rw [e, hD3] at this
          cases this
      · obtain ⟨s3, bs, hD3, hbs⟩ := hp3
        walk_at "go"
        refine i_tupleOfL hD3 (fun l hl4 => ?_)
        have s4 := (s2.trans s3).trans (same_laid (o := .tup (bs.map V.ref)) hl4)
        refine k l _ s4 ⟨hT.same (s2.trans s3) |>.new hl4, bs, upd_same, ?_⟩
        have e : (rs.take (List.map V.ref as).length) = rs := by rw [hvl, List.take_length]
        rw [e] at hbs
        exact Paired.mapP hbs fun b r z => z.same (same_laid hl4)
end
abbrev s_checked_good : Stmt := top 32
theorem sc_checked_good : FnScope ["moves", "good", "at", "room"] ["moves", "good"] (fnScope s_checked_good) := ⟨rfl, rfl, rfl, by decide +kernel, rfl, by decide +kernel, by decide +kernel⟩
def GdGood (Z : AS) (H : Hp) (Q : VK) (n : Nat) (x : V) : Prop := ∃ (p : Addr) (gd : List Nat), x = .ref p ∧ Ints Z H p gd ∧ GOK n gd ∧ ∀ pg' H', Same H H' → IntsT Z H' pg' gd → Q (.ref pg') H'
def sp_checked_good (r : Er) : Sp := fun vs H Q E => ∃ (Z : AS) (pm : Addr) (rs : Rws) (x : V), vs = [.ref pm, x] ∧ TO Z H ∧ Rows Z H pm rs ∧ rs.length ≤ 60 ∧
  (GdGood Z H Q rs.length x ∨ ∃ i : Int, GdBad H rs.length x i ∧ RaiseAt r.BadGood H E "at" (.int i))
theorem gok_len {n : Nat} {gd : List Nat} (h : GOK n gd) : gd.length ≤ n := nodup_le (h.inc.imp fun z => Nat.ne_of_lt z) h.lt
theorem gd_shape {Z : AS} {H : Hp} {Q : VK} {E : XK} {n : Nat} {x : V} {C : Addr} (hn : n ≤ 60) (h : GdGood Z H Q n x ∨ ∃ i : Int, GdBad H n x i ∧ RaiseAt C H E "at" (.int i)) :
    (∃ tn, Thg H x tn ∧ lsB tn = false ∧ RaiseAt C H E "at" (.int (-1))) ∨ ∃ (p : Addr) (t : Bool) (xs : List V), x = .ref p ∧ H p = some (sq t xs) ∧ xs.length ≤ 4000 ∧ ∃ cut : Option Nat,
        (∀ j, j < xs.length → (∀ c, cut = some c → j ≤ c) → (cut ≠ some j ∧ GdAt xs n j) ∨ (cut = some j ∧ GdNo H xs n j)) ∧
        (∀ c, cut = some c → c < xs.length ∧ RaiseAt C H E "at" (.int (c : Int))) ∧ (cut = none → GdGood Z H Q n x) := by
  rcases h with h | ⟨i, h, hE⟩
  · obtain ⟨p, gd, rfl, ⟨hZ, t, hv⟩, hk, k⟩ := id h
    have hlen := gok_len hk
    refine .inr ⟨p, t, _, rfl, hv, by rw [List.length_map]; omega, none, fun j hj _ => .inl ⟨(fun z => (by cases z)), ?_⟩, fun c z => (by cases z), fun _ => h⟩
    rw [List.length_map] at hj
    refine ⟨gd[j], map_at (List.getElem?_eq_getElem hj), hk.lt _ (List.getElem_mem hj), fun h0 => ⟨gd[j - 1]'(by omega), map_at (List.getElem?_eq_getElem _), ?_⟩⟩
    exact List.pairwise_iff_getElem.mp hk.inc (j - 1) j _ _ (by omega)
  · cases h with
    | kind h l => exact .inl ⟨_, h, l, hE⟩
    | @item p t xs i h l g b =>
      refine .inr ⟨_, _, _, rfl, h, l, some i, fun j hj hc => ?_, fun c z => ?_, fun z => (by cases z)⟩
      · have hji := hc i rfl
        by_cases ej : j = i
        · subst ej
          exact .inr ⟨rfl, b⟩
        · exact .inl ⟨fun z => ej (Option.some.inj z).symm, g j (by omega)⟩
      · cases z
        obtain ⟨y, e, _⟩ := b
        exact ⟨(List.getElem?_eq_some_iff.mp e).1, hE⟩
section
variable {P : Program} {w : World} {K : PySem.W.Frag} {mg : Str → Option Value} {base : Heap} {C : Addr} {r : Er}
set_option maxHeartbeats 4000000 in
theorem ok_checked_good {f : Addr} {fd : FuncData} (F : C8.Def K mg "checked_good" s_checked_good f fd) (T : Txt K mg C r) (b : Binds K fd ["moves", "good"] []) (c_is_listed : Cal P w K mg base 1 "is_listed" sp_is_listed []) (c_is_integer : Cal P w K mg base 1 "is_integer" sp_is_integer []) (e_BadGood : MakE P w K mg base "BadGood" r.BadGood r.WrongItem "at" FmtOk) : CalX P w K mg base 4 "checked_good" (sp_checked_good r) := by
  refine calX F b sc_checked_good (fun vs H Q E h => ?_) (fun cdv A outer s H vs Q E hr h => ?_)
  · obtain ⟨_, _, _, _, rfl, _⟩ := h
    rfl
  · obtain ⟨Z, pm, rs, x, rfl, hT, hm, h60, k⟩ := h
    refine ⟨_, (pss_cons (ps_if (pt_not (pt_val (pe_c c_is_listed hr (by decide) rfl (pa_cons (pv 1) pa_nil)))) (pss_one (ps_raiseE rfl (takes_of rfl rfl rfl rfl) e_BadGood hr (by decide) rfl (pa_cons (pe_un un_neg pe_int) pa_nil))) pss_nil)
        (pss_cons (ps_for (passes_of rfl) rfl (enumRK K rfl (by rfl) T.b_enumerate (pa_cons (pv 1) pa_nil)) (pg_tup rfl (pgs_cons (pg_name (i := 2) sc_checked_good.nd rfl (by first | exact Or.inl rfl | exact Or.inr rfl)) (pgs_cons (pg_name (i := 3) sc_checked_good.nd rfl (by first | exact Or.inl rfl | exact Or.inr rfl)) pgs_nil)))
        (pss_cons (ps_if (pt_not (pt_val (pe_c c_is_integer hr (by decide) rfl (pa_cons (pv 3) (pa_cons pe_int (pa_cons (pe_op op_sub (pe_callB (lenK K rfl) (by rfl) T.b_len (by decide +kernel) (pa_cons (pv 0) pa_nil)) pe_int) pa_nil)))))) (pss_one (ps_raiseE rfl (takes_of rfl rfl rfl rfl) e_BadGood hr (by decide) rfl (pa_cons (pv 2) pa_nil))) pss_nil)
        (pss_one (ps_if (PW.pt (pw_and (pt_cmpR op_gt (pv 2) pe_int (nomark _)) (pw_and1 (pt_not (pt_cmpR op_lt (pe_ix (ixK K rfl) (pv 1) (pe_op op_sub (pv 2) pe_int) (fun _ _ => rfl)) (pv 3) (nomark _)))))) (pss_one (ps_raiseE rfl (takes_of rfl rfl rfl rfl) e_BadGood hr (by decide) rfl (pa_cons (pv 2) pa_nil))) pss_nil))))
        (pss_one (PS_nox (ps_ret (pe_callTy (tupleK K rfl) (by rfl) T.b_tuple (by decide +kernel) (pa_cons (pv 1) pa_nil))))))), ?_⟩
    walk_at "go"
    obtain ⟨t0, vs, hm1, hvl⟩ := hm.len
    rcases gd_shape h60 k with ⟨tn, ty, hls, hE⟩ | ⟨p, t, xs, rfl, hv, hx4, cut, hrow, hcut, hgood⟩
    · refine ⟨x, tn, rfl, ty, fun H1 s1 => ?_⟩
      rw [hls]
      walk_at "go"
      refine mkE_end e_BadGood.ic (fmt_int ⟨by omega, by omega⟩) (fun d hd => ?_)
      exact hE d _ (s1.trans (same_laid hd)) (same_free s1 hd) upd_same
    refine ⟨.ref p, _, rfl, .sq hv, fun H1 s1 => ?_⟩
    rw [lsB_sq]
    walk_at "go"
    refine enumR_for (s1 _ _ hv) (fun i σ H' => ∃ x y, σ = [some (.ref pm), some (.ref p), x, y] ∧ Same H1 H' ∧ ∀ c, cut = some c → i ≤ c) ⟨none, none, rfl, Same.refl _, fun c _ => Nat.zero_le _⟩ (fun i σ H' _ ⟨_, _, _, e, _⟩ => e _ _ (s1 _ _ hv)) (fun i v TT σ H' hvi hp' hTT => ?_) (fun σ H' hp' => ?_)
    · obtain ⟨x, y, rfl, hs, hinv⟩ := hp'
      have hs' : Same H (upd H' TT (.tup [.int (i : Nat), v])) := (s1.trans hs).trans (same_laid hTT)
      have hi60 : i < xs.length := (List.getElem?_eq_some_iff.mp hvi).1
      rcases hrow i hi60 hinv with ⟨hne, u, hu, hlt, hprev⟩ | ⟨hci, y, hy, hno⟩
      · have ev : v = vn u := by
          rw [hvi] at hu
          exact Option.some.inj hu
        subst ev
        have hnext : ∀ c, cut = some c → i + 1 ≤ c := fun c hc => by
          have := hinv c hc
          have : c ≠ i := fun e => hne (by rw [hc, e])
          omega
        walk_at "go"
        refine i_lenQ (hs' _ _ hm1) ?_
        walk_at "go"
        refine ⟨vn u, 0, _, "int", rfl, .int _, ?_⟩
        rw [hvl, intB_vn hlt]
        walk_at "go"
        refine iteD (fun hi => ?_) (fun hi => ?_)
        · walk_at "go"
          have hi' : 0 < i := by have : (0 : Int) < (i : Int) := hi; omega
          obtain ⟨u', hu', hlt2⟩ := hprev hi'
          refine i_ixQ (hs' _ _ hv) (v := vn u') (by rw [show (((i : Nat) : Int) - 1) = ((i - 1 : Nat) : Int) by omega]; exact atI_nat hu') ?_
          walk_at "go"
          refine ite_ndf (by omega) ?_
          walk_at "go"
          exact ⟨_, _, rfl, hs.trans (same_laid hTT), hnext⟩
        · walk_at "go"
          exact ⟨_, _, rfl, hs.trans (same_laid hTT), hnext⟩
      · obtain ⟨_, hE⟩ := hcut i hci
        have hfmt : FmtOk (.int ((i : Nat) : Int)) := fmt_int ⟨by omega, by omega⟩
        have ev : v = y := by
          rw [hvi] at hy
          exact Option.some.inj hy
        subst ev
        have fin : ∀ d, (upd H' TT (.tup [.int (i : Nat), v])) d = none → E (.ref r.BadGood) (some d) (upd (upd H' TT (.tup [.int (i : Nat), v])) d (.xd [("at", .int (i : Int))])) := fun d hd => hE d _ (hs'.trans (same_laid hd)) (same_free hs' hd) upd_same
        rcases hno with ⟨tn, ty, hb⟩ | ⟨u, u', rfl, hlt, hi', hu', hle⟩
        · walk_at "go"
          refine i_lenQ (hs' _ _ hm1) ?_
          walk_at "go"
          refine ⟨v, 0, _, tn, rfl, ty.same hs', ?_⟩
          rw [hvl, hb]
          walk_at "go"
          exact mkE_end e_BadGood.ic hfmt fin
        · walk_at "go"
          refine i_lenQ (hs' _ _ hm1) ?_
          walk_at "go"
          refine ⟨vn u, 0, _, "int", rfl, .int _, ?_⟩
          rw [hvl, intB_vn hlt]
          walk_at "go"
          refine ite_dt (by show (0 : Int) < _; omega) ?_
          walk_at "go"
          refine i_ixQ (hs' _ _ hv) (v := vn u') (by rw [show (((i : Nat) : Int) - 1) = ((i - 1 : Nat) : Int) by omega]; exact atI_nat hu') ?_
          walk_at "go"
          refine ite_ndt (by omega) ?_
          walk_at "go"
          exact mkE_end e_BadGood.ic hfmt fin
    · obtain ⟨x, y, rfl, hs, hinv⟩ := hp'
      have hnone : cut = none := by
        cases hcc : cut with
        | none => rfl
        | some c =>
          have h1 := hinv c hcc
          have h2 := (hcut c hcc).1
          omega
      obtain ⟨p', gd, ep, ⟨hZ, tg, hgv⟩, hk, k⟩ := hgood hnone
      cases ep
      walk_at "go"
      have s2 := s1.trans hs
      refine i_tupleOf (s2 _ _ hgv) (fun l H4 h1 h2 h3 => k l H4 (s2.trans h2) ⟨?_, h1⟩)
      rcases h3 with h3 | ⟨h3, _⟩
      · exact fun z => Old.none h3 (hT.same s2 l z)
      · rw [h3]; exact hZ
end
abbrev s_Readerd_initd : Stmt := inClass (top 33) 0
theorem sc_Readerd_initd : FnScope ["self", "alphabet", "moves", "good"] ["self", "alphabet", "moves", "good"] (fnScope s_Readerd_initd) := ⟨rfl, rfl, rfl, by decide +kernel, rfl, by decide +kernel, by decide +kernel⟩
/-- such an error is raised; p may have changed -/
abbrev RaiseKp (p C : Addr) (H : Hp) (E : XK) (f : Str) (v : V) : Prop := ∀ d H', Kp (fun b => b = p) H H' → H d = none → H' d = some (.xd [(f, v)]) → E (.ref C) (some d) H'
def sp_Readerd_initd (C : Addr) (r : Er) : Sp := fun vs H Q E => ∃ (p dx : Addr) (xa xm xg : V), vs = [.ref p, xa, xm, xg] ∧ H p = some (.ins C dx []) ∧
  ((∃ tn, Thg H xa tn ∧ AlStr xa ∧ alB xa = false ∧ RaiseKp p r.BadAlphabet H E "thing" xa) ∨ ∃ al, xa = .str (SX.S al) ∧ AlOk al ∧
    ((∃ i : Int, MvBad H al.length xm i ∧ RaiseKp p r.BadMoves H E "at" (.int i)) ∨ ∃ (Z : AS) (m : Addr) (rs : Rws), xm = .ref m ∧ TO Z H ∧ Rows Z H m rs ∧ WF al.length rs ∧
      ((∃ i : Int, GdBad H rs.length xg i ∧ RaiseKp p r.BadGood H E "at" (.int i)) ∨ ∃ (g : Addr) (gd : List Nat), xg = .ref g ∧ Ints Z H g gd ∧ GOK rs.length gd ∧
        ∀ H' pm pg, Kp (fun b => b = p) H H' → H' p = some (.ins C dx (flds al pm pg)) → RowsT Z H' pm rs → IntsT Z H' pg gd → Q .non H')))
/-- a making of a reader, told at the heap ahead of it -/
def MkW (C : Addr) (r : Er) (H : Hp) (Q : VK) (E : XK) (xa xm xg : V) : Prop :=
  (∃ tn, Thg H xa tn ∧ AlStr xa ∧ alB xa = false ∧ RaiseAt r.BadAlphabet H E "thing" xa) ∨ ∃ al, xa = .str (SX.S al) ∧ AlOk al ∧
    ((∃ i : Int, MvBad H al.length xm i ∧ RaiseAt r.BadMoves H E "at" (.int i)) ∨ ∃ (Z : AS) (m : Addr) (rs : Rws), xm = .ref m ∧ TO Z H ∧ Rows Z H m rs ∧ WF al.length rs ∧
      ((∃ i : Int, GdBad H rs.length xg i ∧ RaiseAt r.BadGood H E "at" (.int i)) ∨ ∃ (g : Addr) (gd : List Nat), xg = .ref g ∧ Ints Z H g gd ∧ GOK rs.length gd ∧
        ∀ p H', Same H H' → H p = none → Rd C Z H' p al rs gd → Q (.ref p) H'))
theorem mk_init {C : Addr} {r : Er} {H : Hp} {Q : VK} {E : XK} {xa xm xg : V} {x dx : Addr} (k : MkW C r H Q E xa xm xg) (hx : H x = none) (hdx : H dx = none) (hne : dx ≠ x) :
    sp_Readerd_initd C r [.ref x, xa, xm, xg] (upd (upd H dx (.own x)) x (.ins C dx [])) (fun v H2 => v = .non ∧ Q (.ref x) H2) E := by
  have s : Same H (upd (upd H dx (.own x)) x (.ins C dx [])) := (same_laid hdx).trans (same_laid (by rw [upd_ne hne.symm]; exact hx))
  have hr : ∀ {D : Addr} {f : Str} {v : V}, RaiseAt D H E f v → RaiseKp x D (upd (upd H dx (.own x)) x (.ins C dx [])) E f v := fun h d H' kk hd he => h d H' (made_same hx hdx kk) (same_free s hd) he
  refine ⟨x, dx, xa, xm, xg, rfl, upd_same, ?_⟩
  rcases k with ⟨tn, ty, hz, hb, k⟩ | ⟨al, rfl, ha, k⟩
  · exact .inl ⟨tn, ty.same s, hz, hb, hr k⟩
  refine .inr ⟨al, rfl, ha, ?_⟩
  rcases k with ⟨i, hi, k⟩ | ⟨Z, m, rs, rfl, hT, hm, hw, k⟩
  · exact .inl ⟨i, hi.same s, hr k⟩
  refine .inr ⟨Z, m, rs, rfl, hT.same s, hm.same s, hw, ?_⟩
  rcases k with ⟨i, hi, k⟩ | ⟨g, gd, rfl, hg, hk, k⟩
  · exact .inl ⟨i, hi.same s, hr k⟩
  refine .inr ⟨g, gd, rfl, hg.same s, hk, fun H' pm pg kk e1 e2 e3 => ⟨rfl, k x H' (made_same hx hdx kk) hx ⟨fun z => ?_, dx, pm, pg, e1, e2, e3⟩⟩⟩
  exact Old.none hx (hT x z)
section
variable {P : Program} {w : World} {K : PySem.W.Frag} {mg : Str → Option Value} {base : Heap} {C : Addr} {r : Er}
set_option maxHeartbeats 4000000 in
theorem ok_Readerd_initd {f : Addr} {fd : FuncData} (F : C8.Fun K "__init__" "Reader.__init__" s_Readerd_initd f fd) (T : Txt K mg C r) (c_check_alphabet : CalX P w K mg base 4 "check_alphabet" (sp_check_alphabet r)) (c_checked_moves : CalX P w K mg base 4 "checked_moves" (sp_checked_moves r)) (c_checked_good : CalX P w K mg base 4 "checked_good" (sp_checked_good r)) : FnOk P w K mg base (L2.CX P w) 5 f fd ["self", "alphabet", "moves", "good"] (sp_Readerd_initd C r) := by
  refine fnX F sc_Readerd_initd (fun vs H Q E h => ?_) (fun cdv A outer s H vs Q E hr h => ?_)
  · obtain ⟨_, _, _, _, _, rfl, _⟩ := h
    rfl
  · obtain ⟨p, dx, xa, xm, xg, rfl, hp, k⟩ := h
    refine ⟨_, (pss_cons (ps_expr (pe_cX c_check_alphabet hr (by decide) (takes_of rfl rfl rfl rfl) rfl (pa_cons (pv 1) pa_nil)))
        (pss_cons (PS_nox (ps_fld (pv 0) (pv 1) rfl))
        (pss_cons (ps_fld (pv 0) (pe_cX c_checked_moves hr (by decide) (takes_of rfl rfl rfl rfl) rfl (pa_cons (pv 1) (pa_cons (pv 2) pa_nil))) rfl)
        (pss_one (ps_fld (pv 0) (pe_cX c_checked_good hr (by decide) (takes_of rfl rfl rfl rfl) rfl (pa_cons (fldK K rfl (pv 0) rfl) (pa_cons (pv 3) pa_nil))) rfl))))), ?_⟩
    walk_at "go"
    rcases k with ⟨tn, ty, hz, hb, k⟩ | ⟨al, rfl, ha, k⟩
    · refine ⟨xa, tn, rfl, ty, hz, fun h => (by rw [hb] at h; cases h), fun _ d H1 s1 hd he => ?_⟩
      exact k d H1 (.of_same s1) hd he
    have hlal : al.length ≤ 4000 := by have := ha.le; omega
    refine ⟨.str (SX.S al), _, rfl, .str _, fun z e => (by cases e; rw [SX.S_len]; exact hlal), fun _ H1 s1 => ?_, fun h => (by rw [ha.alB] at h; cases h)⟩
    walk_at "go"
    refine r_fld (s1 _ _ hp) T.cl T.nA (by show 0 < 1000; decide) ?_
    generalize hfa : putF "alphabet" (V.str (SX.S al)) [] = fa
    have hfl : fa.length = 1 := by rw [← hfa]; rfl
    have kp1 : Kp (fun b => b = p) H (upd H1 p (.ins C dx fa)) := (Kp.of_same s1).trans .at
    have nl : NoLs (fun b => b = p) H := .ins hp
    walk_at "go"
    rcases k with ⟨i, hi, k⟩ | ⟨Z, m, rs, rfl, hT, hm, hw, k⟩
    · refine ⟨al, xm, rfl, ha, .inr ⟨i, hi.kp kp1 nl, fun d H2 s2 hd he => ?_⟩⟩
      refine k d H2 (kp1.trans (.of_same s2)) ?_ he
      have hdp : d ≠ p := fun e => by rw [e, upd_same] at hd; cases hd
      rw [upd_ne hdp] at hd
      exact same_free s1 hd
    have hm1 := (hm.ins hp).same s1
    have hT1 : TO (fun b => Z b ∨ b = p) H1 := fun b hb => hb.elim (fun z => hT.same s1 b z) fun z => by rw [z]; exact ⟨_, s1 _ _ hp⟩
    have kp1' : Kp (fun b => b = p) H1 (upd H1 p (.ins C dx fa)) := Kp.at
    have hT2 : TO (fun b => Z b ∨ b = p) (upd H1 p (.ins C dx fa)) := fun b hb => by
      by_cases e : b = p
      · rw [e]; exact ⟨_, upd_same⟩
      · obtain ⟨o, ho⟩ := hT1 b hb
        exact ⟨o, kp1' _ _ e ho⟩
    refine ⟨al, .ref m, rfl, ha, .inl ⟨fun b => Z b ∨ b = p, m, rs, rfl, hT2, hm1.kp kp1' (fun b hb => .inr hb), hw, fun pm H2 s2 hpm => ?_⟩⟩
    walk_at "go"
    refine r_fld (s2 _ _ upd_same) T.cl T.nM (by rw [hfl]; decide) ?_
    generalize hfm : putF "moves" (V.ref pm) fa = fm
    have hfl2 : fm.length < 1000 := by
      rw [← hfm, ← hfa]
      show (if ("alphabet" : Str) = "moves" then [(("alphabet" : Str), V.ref pm)] else [(("alphabet" : Str), V.str (SX.S al)), (("moves" : Str), V.ref pm)]).length < 1000
      split
      · show 1 < 1000
        decide
      · show 2 < 1000
        decide
    have lkm : fm.lookup ("moves" : Str) = some (V.ref pm) := by rw [← hfm, lookup_putF, if_pos rfl]
    have kp2 : Kp (fun b => b = p) H2 (upd H2 p (.ins C dx fm)) := Kp.at
    have kp02 : Kp (fun b => b = p) H (upd H2 p (.ins C dx fm)) := (kp1.trans (.of_same s2)).trans kp2
    have hT3 : TO (fun b => Z b ∨ b = p) (upd H2 p (.ins C dx fm)) := fun b hb => by
      by_cases e : b = p
      · rw [e]; exact ⟨_, upd_same⟩
      · obtain ⟨o, ho⟩ := (hT2.same s2) b hb
        exact ⟨o, kp2 _ _ e ho⟩
    have hpm2 := hpm.kp kp2 (fun b hb => .inr hb)
    walk_at "go"
    refine i_fldR upd_same T.cl T.nM lkm ?_
    walk_at "go"
    refine ⟨fun b => Z b ∨ b = p, pm, rs, xg, rfl, hT3, hpm2.rows, hw.le, ?_⟩
    rcases k with ⟨i, hi, k⟩ | ⟨g, gd, rfl, hg, hk, k⟩
    · refine .inr ⟨i, hi.kp kp02 nl, fun d H3 s3 hd he => ?_⟩
      refine k d H3 (kp02.trans (.of_same s3)) ?_ he
      have hdp : d ≠ p := fun e => by rw [e, upd_same] at hd; cases hd
      rw [upd_ne hdp] at hd
      have hd := same_free s2 hd
      rw [upd_ne hdp] at hd
      exact same_free s1 hd
    have hg2 := (((hg.ins hp).same s1).kp kp1' (fun b hb => .inr hb)).same s2
    refine .inl ⟨g, gd, rfl, hg2.kp kp2 (fun b hb => .inr hb), hk, fun pg H3 s3 hpg => ?_⟩
    walk_at "go"
    refine r_fld (s3 _ _ upd_same) T.cl T.nG hfl2 ?_
    have kp3 : Kp (fun b => b = p) H3 (upd H3 p (.ins C dx (putF "good" (.ref pg) fm))) := Kp.at
    refine k _ pm pg ?_ ?_ (((hpm2.same s3).kp kp3 (fun b hb => .inr hb)).weak fun b hb => .inl hb) ((hpg.kp kp3 (fun b hb => .inr hb)).weak fun b hb => .inl hb)
    · exact (kp02.trans (.of_same s3)).trans kp3
    · rw [upd_same, ← hfm, ← hfa]
      rfl
end
abbrev s_room_of : Stmt := top 34
theorem sc_room_of : FnScope ["reader", "text", "place", "letter"] ["reader", "text"] (fnScope s_room_of) := ⟨rfl, rfl, rfl, by decide +kernel, rfl, by decide +kernel, by decide +kernel⟩
def sp_room_of (C : Addr) : Sp := fun vs H Q _ => ∃ (Z : AS) (p : Addr) (al : List Nat) (rs : Rws) (gd : List Nat) (z w : List Nat), vs = [.ref p, .str (SX.S z)] ∧ Rd C Z H p al rs gd ∧ AlOk al ∧ WF al.length rs ∧ Word al w z ∧ z.length ≤ 100000 ∧ Q (vn (run rs 0 w)) H
section
variable {P : Program} {w : World} {K : PySem.W.Frag} {mg : Str → Option Value} {base : Heap} {C : Addr} {r : Er}
set_option maxHeartbeats 4000000 in
theorem ok_room_of {f : Addr} {fd : FuncData} (F : Def K mg "room_of" s_room_of f fd) (T : Txt K mg C r) (b : Binds K fd ["reader", "text"] []) : Cal P w K mg base 1 "room_of" (sp_room_of C) [] := by
  refine cal0 F b .nil sc_room_of (fun vs H Q E h => ?_) (fun cdv A outer s H vs Q E hr h => ?_)
  · obtain ⟨_, _, _, _, _, _, _, rfl, _⟩ := h
    rfl
  · obtain ⟨Z, p, al, rs, gd, z, w, rfl, hp, ha, hw, hz, hl, k⟩ := h
    refine ⟨_, (pss_cons (ps_set (i := 2) sc_room_of.nd rfl (by first | exact Or.inl rfl | exact Or.inr rfl) pe_int)
        (pss_cons (ps_for PassesOwn.never rfl (pi_str (pv 1)) (pg_name (i := 3) sc_room_of.nd rfl (by first | exact Or.inl rfl | exact Or.inr rfl))
        (pss_one (ps_set (i := 2) sc_room_of.nd rfl (by first | exact Or.inl rfl | exact Or.inr rfl) (pe_ix (ixK K rfl) (pe_ix (ixK K rfl) (fldK K rfl (pv 0) rfl) (pv 2) (fun _ _ => rfl)) (sidxK K rfl (fldK K rfl (pv 0) rfl) (pa_cons (pv 3) pa_nil)) (fun _ _ => rfl)))))
        (pss_one (ps_ret (pv 2))))), ?_⟩
    walk_at "go"
    obtain ⟨hpZ, dx, pm, pg, hp1, hp2, hp3⟩ := hp
    have hlw := hz.len
    refine str_for (fun i σ H' => ∃ x, i ≤ w.length ∧ H' = H ∧ σ = [some (.ref p), some (.str (SX.S z)), some (vn (run rs 0 (w.take i))), x]) ⟨none, Nat.zero_le _, rfl, rfl⟩ (fun i c σ H' hc hq => ?_) (fun σ H' hq => ?_)
    · obtain ⟨x, hi, rfl, rfl⟩ := hq
      have hc' : z[i]? = some c := by simpa [SX.S] using hc
      obtain ⟨a, ha1, ha2, ha3⟩ := hz.at hc'
      have hi' := (List.getElem?_eq_some_iff.mp ha1).1
      have hlt : run rs 0 (w.take i) < rs.length := hw.run_lt hw.pos fun b hb => hz.1 b (List.mem_of_mem_take hb)
      obtain ⟨vs, b, hv1, hv2, hv3, hb1, hb2⟩ := hp2.at hlt
      walk_at "go"
      refine i_fldR hp1 T.cl T.nM (flds_mo al pm pg) ?_
      walk_at "go"
      refine i_ixT hv1 hv3 ?_
      walk_at "go"
      refine i_fldR hp1 T.cl T.nA (flds_al al pm pg) ?_
      walk_at "go"
      refine i_sidx ha.nd ha3 ?_
      walk_at "go"
      refine i_ixT hb2 (vn_at (hw.stp_at hlt ha2)) ?_
      walk_at "go"
      exact ⟨some (.str ⟨#[c]⟩), hi', rfl, by rw [take_at ha1, run_snoc]; rfl⟩
    · obtain ⟨x, hi, rfl, rfl⟩ := hq
      walk_at "go"
      have e : (w.take (SX.S z).cps.size) = w := by
        rw [show (SX.S z).cps.size = w.length from (SX.S_len z).trans hlw, List.take_length]
      rw [e]
      exact k
end
abbrev s_Reader_room : Stmt := inClass (top 33) 3
theorem sc_Reader_room : FnScope ["self", "text"] ["self", "text"] (fnScope s_Reader_room) := ⟨rfl, rfl, rfl, by decide +kernel, rfl, by decide +kernel, by decide +kernel⟩
theorem word_of {al z : List Nat} (h : ∀ c ∈ z, c ∈ al) : ∃ w, Word al w z := by
  refine ⟨z.map fun c => al.idxOf c, fun a ha => ?_, ?_⟩
  · obtain ⟨c, hc, rfl⟩ := List.mem_map.mp ha
    exact List.idxOf_lt_length_iff.mpr (h c hc)
  · rw [List.map_map]
    refine (List.map_id _).symm.trans (List.map_congr_left fun c hc => ?_)
    show c = al.getD (al.idxOf c) 0
    have hl := List.idxOf_lt_length_iff.mpr (h c hc)
    rw [List.getD_eq_getElem?_getD, List.getElem?_eq_getElem hl]
    simp
theorem fault_none {al : List Nat} {x : V} (h : faultV al 40 x = none) : ∃ z w, x = .str (SX.S z) ∧ Word al w z ∧ z.length ≤ 40 := by
  cases x with
  | str z =>
    obtain ⟨cs, rfl⟩ := str_of z
    have h : faultZ al 40 (SX.S cs).cps.toList = none := h
    rw [S_cps] at h
    unfold faultZ at h
    split at h
    · cases h
    · rename_i hl
      have hf : (cs.findIdx? fun c => decide (c ∉ al)) = none := by
        cases hf : (cs.findIdx? fun c => decide (c ∉ al)) with
        | none => rfl
        | some j => rw [hf] at h; cases h
      obtain ⟨w, hw⟩ := word_of (findIdx_none.mp hf)
      exact ⟨cs, w, rfl, hw, by omega⟩
  | _ =>
    have h : some (-1 : Int) = none := h
    cases h
theorem word_fault {al z w : List Nat} (h : Word al w z) (hl : z.length ≤ 40) : faultV al 40 (.str (SX.S z)) = none := by
  show faultZ al 40 (SX.S z).cps.toList = none
  rw [S_cps]
  unfold faultZ
  rw [if_neg (by omega), findIdx_none.mpr]
  · rfl
  · intro c hc
    obtain ⟨i, hi⟩ := List.mem_iff_getElem?.mp hc
    obtain ⟨a, _, _, h3⟩ := h.at hi
    exact List.mem_of_getElem? h3
theorem word_str {z : List Nat} (h : z.length ≤ 4000) : AlStr (.str (SX.S z)) := fun y e => by
  cases e
  rw [SX.S_len]
  exact h
def sp_Reader_room (C : Addr) (r : Er) : Sp := fun vs H Q E => ∃ (Z : AS) (p : Addr) (al : List Nat) (rs : Rws) (gd : List Nat) (x : V) (tn : String), vs = [.ref p, x] ∧ Rd C Z H p al rs gd ∧ AlOk al ∧ WF al.length rs ∧ Thg H x tn ∧ AlStr x ∧
  (∀ z w, x = .str (SX.S z) → Word al w z → z.length ≤ 40 → ∀ H', Same H H' → Q (vn (run rs 0 w)) H') ∧ (∀ i, faultV al 40 x = some i → RaiseAt r.BadText H E "at" (.int i))
section
variable {P : Program} {w : World} {K : PySem.W.Frag} {mg : Str → Option Value} {base : Heap} {C : Addr} {r : Er}
set_option maxHeartbeats 4000000 in
theorem ok_Reader_room {f : Addr} {fd : FuncData} (F : C8.Fun K "room" "Reader.room" s_Reader_room f fd) (T : Txt K mg C r) (c_check_text : CalX P w K mg base 4 "check_text" (sp_check_text r)) (c_room_of : Cal P w K mg base 1 "room_of" (sp_room_of C) []) : FnOk P w K mg base (L2.CX P w) 5 f fd ["self", "text"] (sp_Reader_room C r) := by
  refine fnX F sc_Reader_room (fun vs H Q E h => ?_) (fun cdv A outer s H vs Q E hr h => ?_)
  · obtain ⟨_, _, _, _, _, _, _, rfl, _⟩ := h
    rfl
  · obtain ⟨Z, p, al, rs, gd, x, tn, rfl, hp, ha, hw, ty, hz, k1, k2⟩ := h
    refine ⟨_, (pss_cons (ps_expr (pe_cX c_check_text hr (by decide) (takes_of rfl rfl rfl rfl) rfl (pa_cons (fldK K rfl (pv 0) rfl) (pa_cons (pv 1) pa_nil))))
        (pss_one (PS_nox (ps_ret (pe_c c_room_of hr (by decide) rfl (pa_cons (pv 0) (pa_cons (pv 1) pa_nil))))))), ?_⟩
    walk_at "go"
    have hp0 := hp
    obtain ⟨hpZ, dx, pm, pg, hp1, hp2, hp3⟩ := hp
    refine i_fldR hp1 T.cl T.nA (flds_al al pm pg) ?_
    walk_at "go"
    refine ⟨al, x, tn, rfl, ty, hz, fun hf H1 s1 => ?_, fun i hf => k2 i hf⟩
    obtain ⟨z, w, rfl, hzw, hl⟩ := fault_none hf
    walk_at "go"
    exact ⟨Z, p, al, rs, gd, z, w, rfl, hp0.same s1, ha, hw, hzw, by omega, k1 z w rfl hzw hl H1 s1⟩
end
abbrev s_Readerd_containsd : Stmt := inClass (top 33) 4
theorem sc_Readerd_containsd : FnScope ["self", "text"] ["self", "text"] (fnScope s_Readerd_containsd) := ⟨rfl, rfl, rfl, by decide +kernel, rfl, by decide +kernel, by decide +kernel⟩
def sp_Readerd_containsd (C : Addr) (r : Er) : Sp := fun vs H Q E => ∃ (Z : AS) (p : Addr) (al : List Nat) (rs : Rws) (gd : List Nat) (x : V) (tn : String), vs = [.ref p, x] ∧ Rd C Z H p al rs gd ∧ AlOk al ∧ WF al.length rs ∧ Thg H x tn ∧ AlStr x ∧
  (∀ z w, x = .str (SX.S z) → Word al w z → z.length ≤ 40 → ∀ H', Same H H' → Q (.bl (decide (run rs 0 w ∈ gd))) H') ∧ (∀ i, faultV al 40 x = some i → RaiseAt r.BadText H E "at" (.int i))
section
variable {P : Program} {w : World} {K : PySem.W.Frag} {mg : Str → Option Value} {base : Heap} {C : Addr} {r : Er}
set_option maxHeartbeats 4000000 in
theorem ok_Readerd_containsd {f : Addr} {fd : FuncData} (F : C8.Fun K "__contains__" "Reader.__contains__" s_Readerd_containsd f fd) (T : Txt K mg C r) (c_check_text : CalX P w K mg base 4 "check_text" (sp_check_text r)) (c_room_of : Cal P w K mg base 1 "room_of" (sp_room_of C) []) : FnOk P w K mg base (L2.CX P w) 5 f fd ["self", "text"] (sp_Readerd_containsd C r) := by
  refine fnX F sc_Readerd_containsd (fun vs H Q E h => ?_) (fun cdv A outer s H vs Q E hr h => ?_)
  · obtain ⟨_, _, _, _, _, _, _, rfl, _⟩ := h
    rfl
  · obtain ⟨Z, p, al, rs, gd, x, tn, rfl, hp, ha, hw, ty, hz, k1, k2⟩ := h
    refine ⟨_, (pss_cons (ps_expr (pe_cX c_check_text hr (by decide) (takes_of rfl rfl rfl rfl) rfl (pa_cons (fldK K rfl (pv 0) rfl) (pa_cons (pv 1) pa_nil))))
        (pss_one (PS_nox (ps_ret (pe_cmpR (inK K rfl) (pe_c c_room_of hr (by decide) rfl (pa_cons (pv 0) (pa_cons (pv 1) pa_nil))) (fldK K rfl (pv 0) rfl) rfl))))), ?_⟩
    walk_at "go"
    have hp0 := hp
    obtain ⟨hpZ, dx, pm, pg, hp1, hp2, hp3⟩ := hp
    refine i_fldR hp1 T.cl T.nA (flds_al al pm pg) ?_
    walk_at "go"
    refine ⟨al, x, tn, rfl, ty, hz, fun hf H1 s1 => ?_, fun i hf => k2 i hf⟩
    obtain ⟨z, w, rfl, hzw, hl⟩ := fault_none hf
    walk_at "go"
    refine ⟨Z, p, al, rs, gd, z, w, rfl, hp0.same s1, ha, hw, hzw, by omega, ?_⟩
    walk_at "go"
    refine i_fldR (s1 _ _ hp1) T.cl T.nG (flds_go al pm pg) ?_
    exact i_inI (t := true) (s1 _ _ hp3.2) (k1 z w rfl hzw hl H1 s1)
end
abbrev s_Readerd_lend : Stmt := inClass (top 33) 5
theorem sc_Readerd_lend : FnScope ["self"] ["self"] (fnScope s_Readerd_lend) := ⟨rfl, rfl, rfl, by decide +kernel, rfl, by decide +kernel, by decide +kernel⟩
def sp_Readerd_lend (C : Addr) : Sp := fun vs H Q _ => ∃ (Z : AS) (p : Addr) (al : List Nat) (rs : Rws) (gd : List Nat), vs = [.ref p] ∧ Rd C Z H p al rs gd ∧ Q (vn rs.length) H
section
variable {P : Program} {w : World} {K : PySem.W.Frag} {mg : Str → Option Value} {base : Heap} {C : Addr} {r : Er}
set_option maxHeartbeats 4000000 in
theorem ok_Readerd_lend {f : Addr} {fd : FuncData} (F : C8.Fun K "__len__" "Reader.__len__" s_Readerd_lend f fd) (T : Txt K mg C r) : FnOk P w K mg base C8.CX0 1 f fd ["self"] (sp_Readerd_lend C) := by
  refine fn0 F sc_Readerd_lend (fun vs H Q E h => ?_) (fun cdv A outer s H vs Q E hr h => ?_)
  · obtain ⟨_, _, _, _, _, rfl, _⟩ := h
    rfl
  · obtain ⟨Z, p, al, rs, gd, rfl, hp, k⟩ := h
    refine ⟨_, (pss_one (ps_ret (pe_callB (lenK K rfl) (by rfl) T.b_len (by decide +kernel) (pa_cons (fldK K rfl (pv 0) rfl) pa_nil)))), ?_⟩
    walk_at "go"
    obtain ⟨hpZ, dx, pm, pg, hp1, hp2, hp3⟩ := hp
    obtain ⟨vs, hv, hvl⟩ := hp2.len
    refine i_fldR hp1 T.cl T.nM (flds_mo al pm pg) ?_
    refine i_lenT hv ?_
    rw [hvl]
    exact k
end
abbrev s_Readerd_eqd : Stmt := inClass (top 33) 6
theorem sc_Readerd_eqd : FnScope ["self", "other"] ["self", "other"] (fnScope s_Readerd_eqd) := ⟨rfl, rfl, rfl, by decide +kernel, rfl, by decide +kernel, by decide +kernel⟩
def sp_Readerd_eqd (K : PySem.W.Frag) (C : Addr) : Sp := fun vs H Q _ => ∃ (Z : AS) (p : Addr) (al : List Nat) (rs : Rws) (gd : List Nat) (y : V), vs = [.ref p, y] ∧ Rd C Z H p al rs gd ∧ rs.length ≤ 60 ∧
  ((∃ (Z' : AS) (q : Addr) (bl : List Nat) (rs' : Rws) (gd' : List Nat), y = .ref q ∧ Rd C Z' H q bl rs' gd' ∧ rs'.length ≤ 60 ∧ Q (.bl (decide (al = bl ∧ rs = rs' ∧ gd = gd'))) H) ∨
   ∃ tn, TyX K H y (.type tn) ∧ PySem.W.kitOne K (.type tn) (.ref C) = some false ∧ Q (.bl false) H)
section
variable {P : Program} {w : World} {K : PySem.W.Frag} {mg : Str → Option Value} {base : Heap} {C : Addr} {r : Er}
set_option maxHeartbeats 4000000 in
theorem ok_Readerd_eqd {f : Addr} {fd : FuncData} (F : C8.Fun K "__eq__" "Reader.__eq__" s_Readerd_eqd f fd) (T : Txt K mg C r) : FnOk P w K mg base C8.CX0 1 f fd ["self", "other"] (sp_Readerd_eqd K C) := by
  refine fn0 F sc_Readerd_eqd (fun vs H Q E h => ?_) (fun cdv A outer s H vs Q E hr h => ?_)
  · obtain ⟨_, _, _, _, _, _, rfl, _⟩ := h
    rfl
  · obtain ⟨Z, p, al, rs, gd, y, rfl, hp, hw, k⟩ := h
    refine ⟨_, (pss_one (ps_ret (pe_and (pe_callB (call_isCX K rfl T.ins) (by rfl) T.b_isinstance (by decide +kernel) (pa_cons (pv 1) (pa_cons (pe_gc (v := .ref C) rfl ⟨_, T.mg_Reader, rfl⟩) pa_nil))) (pe_and (pe_cmpR op_eq (fldK K rfl (pv 0) rfl) (fldK K rfl (pv 1) rfl) (nomark _)) (pe_and (pe_cmpR (eqDK K rfl hr.units) (fldK K rfl (pv 0) rfl) (fldK K rfl (pv 1) rfl) (nomark _)) (pe_one (pe_cmpR (eqDK K rfl hr.units) (fldK K rfl (pv 0) rfl) (fldK K rfl (pv 1) rfl) (nomark _)))))))), ?_⟩
    walk_at "go"
    obtain ⟨hpZ, dx, pm, pg, hp1, hp2, hp3⟩ := hp
    rcases k with ⟨Z', q, bl, rs', gd', rfl, ⟨hqZ, dy, qm, qg, hq1, hq2, hq3⟩, hw', k⟩ | ⟨tn, ty, hk, k⟩
    rotate_left
    · refine .inr ⟨y, .ref C, .type tn, .ref C, false, rfl, .own C, ty, hk, ?_⟩
      walk_at "go"
      exact k
    refine .inl ⟨q, dy, _, rfl, hq1, ?_⟩
    walk_at "go"
    refine i_fldR hp1 T.cl T.nA (flds_al al pm pg) ?_
    walk_at "go"
    refine i_fldR hq1 T.cl T.nA (flds_al bl qm qg) ?_
    walk_at "go"
    refine iteD (fun ha => ?_) (fun ha => ?_)
    rotate_left
    · have e : false = decide (al = bl ∧ rs = rs' ∧ gd = gd') := by
        have : ¬ al = bl := fun z => ha (by rw [z])
        simp [this]
      rw [e]
      exact k
    have ha := SX_inj ha
    subst ha
    walk_at "go"
    refine i_fldR hp1 T.cl T.nM (flds_mo al pm pg) ?_
    walk_at "go"
    refine i_fldR hq1 T.cl T.nM (flds_mo al qm qg) ?_
    refine i_eqRows hp2 hq2 ?_
    walk_at "go"
    refine iteD (fun he => ?_) (fun he => ?_)
    · walk_at "go"
      refine i_fldR hp1 T.cl T.nG (flds_go al pm pg) ?_
      walk_at "go"
      refine i_fldR hq1 T.cl T.nG (flds_go al qm qg) ?_
      refine i_eqInts hp3 hq3 ?_
      have e : decide (gd = gd') = decide (al = al ∧ rs = rs' ∧ gd = gd') := by simp [he]
      rw [e]
      exact k
    · have e : false = decide (al = al ∧ rs = rs' ∧ gd = gd') := by simp [he]
      rw [e]
      exact k
end
abbrev s_Reader_full : Stmt := inClass (top 33) 1
theorem sc_Reader_full : FnScope ["alphabet", "letter"] ["alphabet"] (fnScope s_Reader_full) := ⟨rfl, rfl, rfl, by decide +kernel, rfl, by decide +kernel, by decide +kernel⟩
theorem alL_ok {al : List Nat} (h : alL al = true) : AlOk al := by
  simp only [alL, Bool.and_eq_true, decide_eq_true_iff, List.all_eq_true] at h
  obtain ⟨⟨⟨h1, h3⟩, hs⟩, ha⟩ := h
  refine ⟨h1, h3, hs, ?_⟩
  have ha := asc_pw.mp ha
  clear hs
  match al, h3, ha with
  | [], _, _ => exact .nil
  | [a], _, _ => exact List.pairwise_singleton _ _
  | [a, b], _, ha =>
    have := ha 0 (by simp)
    have : a < b := this
    simp [this]
  | [a, b, c], _, ha =>
    have h1 : a < b := ha 0 (by simp)
    have h2 : b < c := ha 1 (by simp)
    have h3 : a < c := Nat.lt_trans h1 h2
    simp [h1, h2, h3]
theorem alB_ok {x : V} (h : alB x = true) : ∃ al, x = .str (SX.S al) ∧ AlOk al := by
  cases x with
  | str z =>
    obtain ⟨cs, rfl⟩ := str_of z
    rw [alB_str] at h
    exact ⟨cs, rfl, alL_ok h⟩
  | _ => cases h
def row0 (m : Nat) : Rws := [List.replicate m 0]
theorem row0_wf {al : List Nat} (ha : AlOk al) : WF al.length (row0 al.length) := .of (by show 0 < 1; decide) (by show 1 ≤ 60; decide) ha.le (fun r hr => by rw [List.mem_singleton.mp hr, List.length_replicate]) (fun r hr t ht => by
  rw [List.mem_singleton.mp hr] at ht
  rw [(List.mem_replicate.mp ht).2]
  show 0 < 1
  decide)
def sp_Reader_full (C : Addr) (r : Er) : Sp := fun vs H Q E => ∃ (x : V) (tn : String), vs = [x] ∧ Thg H x tn ∧ AlStr x ∧ (∀ al, x = .str (SX.S al) → AlOk al → ∀ p H', Same H H' → H p = none → Rd C (Old H) H' p al (row0 al.length) [0] → Q (.ref p) H') ∧ (alB x = false → RaiseAt r.BadAlphabet H E "thing" x)
section
variable {P : Program} {w : World} {K : PySem.W.Frag} {mg : Str → Option Value} {base : Heap} {C : Addr} {r : Er}
set_option maxHeartbeats 4000000 in
theorem ok_Reader_full {f : Addr} {fd : FuncData} (F : C8.Fun K "full" "Reader.full" s_Reader_full f fd) (T : Txt K mg C r) (c_check_alphabet : CalX P w K mg base 4 "check_alphabet" (sp_check_alphabet r)) (m_Reader : MakX P w K mg base 5 "Reader" C (sp_Readerd_initd C r)) : FnOk P w K mg base (L2.CX P w) 7 f fd ["alphabet"] (sp_Reader_full C r) := by
  refine fnX F sc_Reader_full (fun vs H Q E h => ?_) (fun cdv A outer s H vs Q E hr h => ?_)
  · obtain ⟨_, _, rfl, _⟩ := h
    rfl
  · obtain ⟨x, tn, rfl, ty, hz, k1, k2⟩ := h
    refine ⟨_, (pss_cons (ps_expr (pe_cX c_check_alphabet hr (by decide) (takes_of rfl rfl rfl rfl) rfl (pa_cons (pv 0) pa_nil)))
        (pss_one (ps_ret (pe_mkX m_Reader hr (by decide) (takes_of rfl rfl rfl rfl) rfl (pa_cons (pv 0) (pa_cons (pe_tup (pa_cons (pe_callTy (tupleK K rfl) (by rfl) T.b_tuple (by decide +kernel) (pa_cons (pe_lc (own := [("letter", 1)]) rfl sc_Reader_full.nd (pi_str (pv 0)) (blkOk_by (by kernel_rfl)) (fun _ _ _ _ _ => (pg_name (i := 1) sc_Reader_full.nd rfl (by first | exact Or.inl rfl | exact Or.inr rfl))) (fun _ _ _ _ _ => pts_nil) (fun _ _ _ _ _ => pe_int)) pa_nil)) pa_nil)) (pa_cons (pe_tup (pa_cons pe_int pa_nil)) pa_nil))))))), ?_⟩
    walk_at "go"
    refine ⟨x, tn, rfl, ty, hz, fun hb H1 s1 => ?_, k2⟩
    obtain ⟨al, rfl, ha⟩ := alB_ok hb
    have k := k1 al rfl ha
    have h1 := ha.pos
    have h3 := ha.le
    have hl : (SX.S al).length = al.length := SX.S_len al
    have hcs : (SX.S al).cps.size = al.length := hl
    walk_at "go"
    intro D hD
    refine str_lc (fun i H' => i ≤ al.length ∧ H' = upd H1 D (.lst (List.replicate i (.int 0)))) ⟨Nat.zero_le _, rfl⟩ (fun i c H' hc z => ?_) (fun H' z => ?_)
    · obtain ⟨_, rfl⟩ := z
      have hi' : i < al.length := by
        have z : al.toArray[i]? = some c := hc
        rw [List.getElem?_toArray] at z
        exact (List.getElem?_eq_some_iff.mp z).1
      walk_at "go"
      exact ⟨_, upd_same, szlt (by rw [List.length_replicate]; omega), hi', upd_lst (rep_snoc i (V.int 0))⟩
    · obtain ⟨_, rfl⟩ := z
      rw [hcs]
      walk_at "go"
      refine i_tupleOfL upd_same (fun TT hTT => ?_)
      walk_at "go"
      refine ⟨sz1, fun M hM => ?_⟩
      walk_at "go"
      refine ⟨szl (by show 1 ≤ 16777216; decide), fun G hG => ?_⟩
      walk_at "go"
      have s2 : Same H1 (upd (upd H1 D (.lst (List.replicate al.length (.int 0)))) TT (.tup (List.replicate al.length (.int 0)))) := (same_laid hD).trans (same_laid hTT)
      have s3 := s2.trans (same_laid (o := .tup [.ref TT]) hM)
      have s4 := s3.trans (same_laid (o := .tup [.int 0]) hG)
      have hT4 : (upd (upd (upd (upd H1 D (.lst (List.replicate al.length (.int 0)))) TT (.tup (List.replicate al.length (.int 0)))) M (.tup [.ref TT])) G (.tup [.int 0])) TT = some (.tup (List.replicate al.length (.int 0))) := by
        rw [upd_ne (ne_of_none (by rw [upd_ne (ne_of_none upd_same hM), upd_same]) hG), upd_ne (ne_of_none upd_same hM), upd_same]
      have hM4 : (upd (upd (upd (upd H1 D (.lst (List.replicate al.length (.int 0)))) TT (.tup (List.replicate al.length (.int 0)))) M (.tup [.ref TT])) G (.tup [.int 0])) M = some (.tup [.ref TT]) := by
        rw [upd_ne (ne_of_none upd_same hG), upd_same]
      have hG4 : (upd (upd (upd (upd H1 D (.lst (List.replicate al.length (.int 0)))) TT (.tup (List.replicate al.length (.int 0)))) M (.tup [.ref TT])) G (.tup [.int 0])) G = some (.tup [.int 0]) := upd_same
      have hTT0 : H1 TT = none := same_free (same_laid hD) hTT
      have hM0 : H1 M = none := same_free s2 hM
      have hG0 : H1 G = none := same_free s3 hG
      generalize upd (upd (upd (upd H1 D (.lst (List.replicate al.length (.int 0)))) TT (.tup (List.replicate al.length (.int 0)))) M (.tup [.ref TT])) G (.tup [.int 0]) = H4 at *
      have s04 := s1.trans s4
      have e0 : (List.replicate al.length (V.int 0)) = (List.replicate al.length 0).map vn := by rw [List.map_replicate]; rfl
      intro y dy hy hdy hne
      have eo : ∀ {b}, H1 b = none → ¬ Old H b := fun h => Old.none (same_free s1 h)
      exact mk_init (.inr ⟨al, rfl, ha, .inr ⟨Old H, M, row0 al.length, rfl, fun q hq => let ⟨u, hu⟩ := hq; ⟨u, s04 _ _ hu⟩, ⟨eo hM0, true, [TT], hM4, .cons ⟨eo hTT0, true, by rw [hT4, e0]; rfl⟩ .nil⟩, row0_wf ha, .inr ⟨G, [0], rfl, ⟨eo hG0, true, hG4⟩, ⟨List.pairwise_singleton _ _, fun z hz => by rw [List.mem_singleton.mp hz]; show 0 < 1; decide⟩, fun q H' s5 hq hr => k q H' (s04.trans s5) (same_free s04 hq) hr⟩⟩⟩) hy hdy hne
end
abbrev s_Reader_bare : Stmt := inClass (top 33) 2
theorem sc_Reader_bare : FnScope ["alphabet", "letter"] ["alphabet"] (fnScope s_Reader_bare) := ⟨rfl, rfl, rfl, by decide +kernel, rfl, by decide +kernel, by decide +kernel⟩
def sp_Reader_bare (C : Addr) (r : Er) : Sp := fun vs H Q E => ∃ (x : V) (tn : String), vs = [x] ∧ Thg H x tn ∧ AlStr x ∧ (∀ al, x = .str (SX.S al) → AlOk al → ∀ p H', Same H H' → H p = none → Rd C (Old H) H' p al (row0 al.length) [] → Q (.ref p) H') ∧ (alB x = false → RaiseAt r.BadAlphabet H E "thing" x)
section
variable {P : Program} {w : World} {K : PySem.W.Frag} {mg : Str → Option Value} {base : Heap} {C : Addr} {r : Er}
set_option maxHeartbeats 4000000 in
theorem ok_Reader_bare {f : Addr} {fd : FuncData} (F : C8.Fun K "bare" "Reader.bare" s_Reader_bare f fd) (T : Txt K mg C r) (c_check_alphabet : CalX P w K mg base 4 "check_alphabet" (sp_check_alphabet r)) (m_Reader : MakX P w K mg base 5 "Reader" C (sp_Readerd_initd C r)) : FnOk P w K mg base (L2.CX P w) 7 f fd ["alphabet"] (sp_Reader_bare C r) := by
  refine fnX F sc_Reader_bare (fun vs H Q E h => ?_) (fun cdv A outer s H vs Q E hr h => ?_)
  · obtain ⟨_, _, rfl, _⟩ := h
    rfl
  · obtain ⟨x, tn, rfl, ty, hz, k1, k2⟩ := h
    refine ⟨_, (pss_cons (ps_expr (pe_cX c_check_alphabet hr (by decide) (takes_of rfl rfl rfl rfl) rfl (pa_cons (pv 0) pa_nil)))
        (pss_one (ps_ret (pe_mkX m_Reader hr (by decide) (takes_of rfl rfl rfl rfl) rfl (pa_cons (pv 0) (pa_cons (pe_tup (pa_cons (pe_callTy (tupleK K rfl) (by rfl) T.b_tuple (by decide +kernel) (pa_cons (pe_lc (own := [("letter", 1)]) rfl sc_Reader_bare.nd (pi_str (pv 0)) (blkOk_by (by kernel_rfl)) (fun _ _ _ _ _ => (pg_name (i := 1) sc_Reader_bare.nd rfl (by first | exact Or.inl rfl | exact Or.inr rfl))) (fun _ _ _ _ _ => pts_nil) (fun _ _ _ _ _ => pe_int)) pa_nil)) pa_nil)) (pa_cons (pe_tup pa_nil) pa_nil))))))), ?_⟩
    walk_at "go"
    refine ⟨x, tn, rfl, ty, hz, fun hb H1 s1 => ?_, k2⟩
    obtain ⟨al, rfl, ha⟩ := alB_ok hb
    have k := k1 al rfl ha
    have h1 := ha.pos
    have h3 := ha.le
    have hl : (SX.S al).length = al.length := SX.S_len al
    have hcs : (SX.S al).cps.size = al.length := hl
    walk_at "go"
    intro D hD
    refine str_lc (fun i H' => i ≤ al.length ∧ H' = upd H1 D (.lst (List.replicate i (.int 0)))) ⟨Nat.zero_le _, rfl⟩ (fun i c H' hc z => ?_) (fun H' z => ?_)
    · obtain ⟨_, rfl⟩ := z
      have hi' : i < al.length := by
        have z : al.toArray[i]? = some c := hc
        rw [List.getElem?_toArray] at z
        exact (List.getElem?_eq_some_iff.mp z).1
      walk_at "go"
      exact ⟨_, upd_same, szlt (by rw [List.length_replicate]; omega), hi', upd_lst (rep_snoc i (V.int 0))⟩
    · obtain ⟨_, rfl⟩ := z
      rw [hcs]
      walk_at "go"
      refine i_tupleOfL upd_same (fun TT hTT => ?_)
      walk_at "go"
      refine ⟨sz1, fun M hM => ?_⟩
      walk_at "go"
      refine ⟨szl (by show 0 ≤ 16777216; decide), fun G hG => ?_⟩
      walk_at "go"
      have s2 : Same H1 (upd (upd H1 D (.lst (List.replicate al.length (.int 0)))) TT (.tup (List.replicate al.length (.int 0)))) := (same_laid hD).trans (same_laid hTT)
      have s3 := s2.trans (same_laid (o := .tup [.ref TT]) hM)
      have s4 := s3.trans (same_laid (o := .tup []) hG)
      have hT4 : (upd (upd (upd (upd H1 D (.lst (List.replicate al.length (.int 0)))) TT (.tup (List.replicate al.length (.int 0)))) M (.tup [.ref TT])) G (.tup [])) TT = some (.tup (List.replicate al.length (.int 0))) := by
        rw [upd_ne (ne_of_none (by rw [upd_ne (ne_of_none upd_same hM), upd_same]) hG), upd_ne (ne_of_none upd_same hM), upd_same]
      have hM4 : (upd (upd (upd (upd H1 D (.lst (List.replicate al.length (.int 0)))) TT (.tup (List.replicate al.length (.int 0)))) M (.tup [.ref TT])) G (.tup [])) M = some (.tup [.ref TT]) := by
        rw [upd_ne (ne_of_none upd_same hG), upd_same]
      have hG4 : (upd (upd (upd (upd H1 D (.lst (List.replicate al.length (.int 0)))) TT (.tup (List.replicate al.length (.int 0)))) M (.tup [.ref TT])) G (.tup [])) G = some (.tup []) := upd_same
      have hTT0 : H1 TT = none := same_free (same_laid hD) hTT
      have hM0 : H1 M = none := same_free s2 hM
      have hG0 : H1 G = none := same_free s3 hG
      generalize upd (upd (upd (upd H1 D (.lst (List.replicate al.length (.int 0)))) TT (.tup (List.replicate al.length (.int 0)))) M (.tup [.ref TT])) G (.tup []) = H4 at *
      have s04 := s1.trans s4
      have e0 : (List.replicate al.length (V.int 0)) = (List.replicate al.length 0).map vn := by rw [List.map_replicate]; rfl
      intro y dy hy hdy hne
      have eo : ∀ {b}, H1 b = none → ¬ Old H b := fun h => Old.none (same_free s1 h)
      exact mk_init (.inr ⟨al, rfl, ha, .inr ⟨Old H, M, row0 al.length, rfl, fun q hq => let ⟨u, hu⟩ := hq; ⟨u, s04 _ _ hu⟩, ⟨eo hM0, true, [TT], hM4, .cons ⟨eo hTT0, true, by rw [hT4, e0]; rfl⟩ .nil⟩, row0_wf ha, .inr ⟨G, [], rfl, ⟨eo hG0, true, hG4⟩, ⟨List.Pairwise.nil, fun z hz => by cases hz⟩, fun q H' s5 hq hr => k q H' (s04.trans s5) (same_free s04 hq) hr⟩⟩⟩) hy hdy hne
end
abbrev s_law_pick : Stmt := top 41
theorem sc_law_pick : FnScope ["source", "many", "digit", "mixed"] ["source", "many"] (fnScope s_law_pick) := ⟨rfl, rfl, rfl, by decide +kernel, rfl, by decide +kernel, by decide +kernel⟩
def sp_law_pick : Sp := fun vs H Q _ => ∃ (S : AS) (a : Addr) (m : Int), vs = [.ref a, .int m] ∧ S a ∧ Srcs S H ∧ 0 < m ∧ m < 1073741824 ∧ ∀ (d : Int) (H' : Hp), 0 ≤ d → d < m → Ev S H H' → Q (.int d) H'
section
variable {P : Program} {w : World} {K : PySem.W.Frag} {mg : Str → Option Value} {base : Heap} {C : Addr} {r : Er}
set_option maxHeartbeats 4000000 in
theorem ok_law_pick {f : Addr} {fd : FuncData} (F : Def K mg "_law_pick" s_law_pick f fd) (T : Txt K mg C r) (b : Binds K fd ["source", "many"] []) : Cal P w K mg base 1 "_law_pick" (sp_law_pick) [] := by
  refine cal0 F b .nil sc_law_pick (fun vs H Q E h => ?_) (fun cdv A outer s H vs Q E hr h => ?_)
  · obtain ⟨_, _, _, rfl, _⟩ := h
    rfl
  · obtain ⟨S, a, m, rfl, ha, hS, h0, h1, k⟩ := h
    refine ⟨_, (pss_cons (ps_if (pt_cmpR op_gt (pe_ix (ixK K rfl) (pv 0) pe_int (fun _ _ => rfl)) pe_int (nomark _)) (pss_cons (ps_set (i := 2) sc_law_pick.nd rfl (by first | exact Or.inl rfl | exact Or.inr rfl) (pe_op op_mod (pe_callTy int1 (by rfl) T.b_int (by decide +kernel) (pa_cons (pe_ix (ixK K rfl) (pv 0) pe_int (fun _ _ => rfl)) pa_nil)) (pv 1)))
        (pss_cons (ps_asg (pe_op op_fdiv (pe_ix (ixK K rfl) (pv 0) pe_int (fun _ _ => rfl)) (pv 1)) (pg_sub (pv 0) pe_int set_list))
        (pss_one (ps_ret (pv 2))))) pss_nil)
        (pss_cons (ps_asg (pe_op op_add (pe_ix (ixK K rfl) (pv 0) pe_int (fun _ _ => rfl)) pe_int) (pg_sub (pv 0) pe_int set_list))
        (pss_cons (ps_set (i := 3) sc_law_pick.nd rfl (by first | exact Or.inl rfl | exact Or.inr rfl) (pe_op op_mod (pe_callTy int1 (by rfl) T.b_int (by decide +kernel) (pa_cons (pe_op op_mul (pe_op op_add (pe_ix (ixK K rfl) (pv 0) pe_int (fun _ _ => rfl)) (pe_op op_mul pe_int (pe_ix (ixK K rfl) (pv 0) pe_int (fun _ _ => rfl)))) pe_int) pa_nil)) pe_int))
        (pss_cons (ps_set (i := 3) sc_law_pick.nd rfl (by first | exact Or.inl rfl | exact Or.inr rfl) (pe_op op_mod (pe_callTy int1 (by rfl) T.b_int (by decide +kernel) (pa_cons (pe_op op_add (pe_op op_add (pe_op op_mul (pv 3) (pv 3)) (pe_op op_mul pe_int (pe_ix (ixK K rfl) (pv 0) pe_int (fun _ _ => rfl)))) (pe_ix (ixK K rfl) (pv 0) pe_int (fun _ _ => rfl))) pa_nil)) pe_int))
        (pss_cons (ps_set (i := 3) sc_law_pick.nd rfl (by first | exact Or.inl rfl | exact Or.inr rfl) (pe_op op_mod (pe_callTy int1 (by rfl) T.b_int (by decide +kernel) (pa_cons (pe_op op_add (pe_op op_mul (pv 3) pe_int) pe_int) pa_nil)) pe_int))
        (pss_cons (ps_set (i := 3) sc_law_pick.nd rfl (by first | exact Or.inl rfl | exact Or.inr rfl) (pe_op op_mod (pe_callTy int1 (by rfl) T.b_int (by decide +kernel) (pa_cons (pe_op op_add (pe_op op_mul (pv 3) (pv 3)) (pv 3)) pa_nil)) pe_int))
        (pss_one (ps_ret (pe_op op_mod (pe_callTy int1 (by rfl) T.b_int (by decide +kernel) (pa_cons (pe_op op_fdiv (pv 3) pe_int) pa_nil)) (pv 1)))))))))), ?_⟩
    obtain ⟨x, y, z, hs⟩ := hS a ha
    walk_at "go"
    refine iteD (fun hx => ?_) (fun hx => ?_)
    · walk_at "go"
      exact k _ _ (Int.emod_nonneg _ (by omega)) (Int.emod_lt_of_pos _ h0) (.wrote hS ha)
    · walk_at "go"
      exact k _ _ (Int.emod_nonneg _ (by omega)) (Int.emod_lt_of_pos _ h0) (.wrote hS ha)
end
abbrev s_law_source : Stmt := top 40
theorem sc_law_source : FnScope ["script", "place", "cell", "seed", "one", "number"] ["script", "place"] (fnScope s_law_source) := ⟨rfl, rfl, rfl, by decide +kernel, rfl, by decide +kernel, by decide +kernel⟩
def sp_law_source (K : PySem.W.Frag) : Sp := fun vs H Q _ => ∃ (a : Addr) (ns : List Int) (k : Nat), vs = [.ref a, .int (k : Int)] ∧ SqL K H a (ns.map V.int) ∧ ns.length ≤ 63 ∧ k ≤ 3 ∧ (∀ n ∈ ns, n.natAbs < 2 ^ 1048576) ∧ ∀ p x y z H', Same H H' → H p = none → H' p = some (.lst [.int x, .int y, .int z]) → Q (.ref p) H'
section
variable {P : Program} {w : World} {K : PySem.W.Frag} {mg : Str → Option Value} {base : Heap} {C : Addr} {r : Er}
set_option maxHeartbeats 4000000 in
theorem ok_law_source {f : Addr} {fd : FuncData} (F : Def K mg "_law_source" s_law_source f fd) (T : Txt K mg C r) (b : Binds K fd ["script", "place"] []) : Cal P w K mg base 1 "_law_source" (sp_law_source K) [] := by
  refine cal0 F b .nil sc_law_source (fun vs H Q E h => ?_) (fun cdv A outer s H vs Q E hr h => ?_)
  · obtain ⟨_, _, _, rfl, _⟩ := h
    rfl
  · obtain ⟨a, ns, k, rfl, ha, hl, hk2, hb, kk⟩ := h
    refine ⟨_, (C8.pss_cut (ps_set (i := 2) sc_law_source.nd rfl (by first | exact Or.inl rfl | exact Or.inr rfl) (pe_ifExp (pt_cmpR op_lt (pv 1) (pe_callB (lenK K rfl) (by rfl) T.b_len (by decide +kernel) (pa_cons (pv 0) pa_nil)) (nomark _)) (pe_ix (ixK K rfl) (pv 0) (pv 1) (fun _ _ => rfl)) (pe_op op_add (pe_op op_mul pe_int (pv 1)) pe_int)))
        (pss_cons (ps_set (i := 3) sc_law_source.nd rfl (by first | exact Or.inl rfl | exact Or.inr rfl) (pe_op op_add (pe_op op_mul pe_int (pv 1)) pe_int))
        (pss_cons (ps_for PassesOwn.never rfl (seqK K rfl (pe_slice (slLK K rfl) (pv 0) po_none (po_some pe_int))) (pg_name (i := 4) sc_law_source.nd rfl (by first | exact Or.inl rfl | exact Or.inr rfl))
        (pss_one (ps_set (i := 3) sc_law_source.nd rfl (by first | exact Or.inl rfl | exact Or.inr rfl) (pe_op op_mod (pe_callTy int1 (by rfl) T.b_int (by decide +kernel) (pa_cons (pe_op op_add (pe_op op_mul (pv 3) pe_int) (pe_op op_mod (pe_callTy int1 (by rfl) T.b_int (by decide +kernel) (pa_cons (pv 4) pa_nil)) pe_int)) pa_nil)) pe_int))))
        (pss_cons (ps_set (i := 3) sc_law_source.nd rfl (by first | exact Or.inl rfl | exact Or.inr rfl) (pe_op op_mod (pe_callTy int1 (by rfl) T.b_int (by decide +kernel) (pa_cons (pe_op op_add (pe_op op_mul (pv 3) pe_int) (pe_op op_mod (pe_callTy int1 (by rfl) T.b_int (by decide +kernel) (pa_cons (pv 2) pa_nil)) pe_int)) pa_nil)) pe_int))
        (pss_cons (ps_set (i := 5) sc_law_source.nd rfl (by first | exact Or.inl rfl | exact Or.inr rfl) (pe_callB call_abs (by rfl) T.b_abs (by decide +kernel) (pa_cons (pv 2) pa_nil)))
        (pss_cons (ps_if (pt_cmpR op_lt (pv 5) (pe_op op_pow pe_int pe_int) (nomark _)) (pss_one (ps_ret (pe_lst (pa_cons pe_int (pa_cons (pv 3) (pa_cons pe_int pa_nil)))))) pss_nil)
        (pss_cons (ps_if (pt_cmpR op_gt (pe_op op_shr (pv 5) pe_int) pe_int (nomark _)) (pss_one (ps_set (i := 5) sc_law_source.nd rfl (by first | exact Or.inl rfl | exact Or.inr rfl) (pe_op op_sub (pv 5) (pe_op op_shlW (pe_op op_shr (pv 5) pe_int) pe_int)))) pss_nil)
        (pss_one (ps_ret (pe_lst (pa_cons (pv 5) (pa_cons (pv 3) (pa_cons pe_int pa_nil))))))))))))), ?_⟩
    walk_at "go"
    refine i_cut (fun σ H' => ∃ c : Int, c.natAbs < 2 ^ 1048576 ∧ H' = H ∧ σ = [some (.ref a), some (.int (k : Int)), some (.int c), none, none, none]) ?_ (fun σ H' hq => ?_)
    · walk_at "go"
      refine i_lenLs ha ?_
      walk_at "go"
      rw [List.length_map]
      refine iteD (fun h => ?_) (fun h => ?_)
      · walk_at "go"
        have hk : k < ns.length := by omega
        refine i_ixLs ha (v := .int ns[k]) (atI_nat (by rw [List.getElem?_map, List.getElem?_eq_getElem hk]; rfl)) ?_
        walk_at "go"
        exact ⟨_, hb _ (List.getElem_mem hk), rfl, rfl⟩
      · walk_at "go"
        refine ⟨_, ?_, rfl, rfl⟩
        refine Nat.lt_of_lt_of_le (m := 2 ^ 5) (by omega) (Nat.pow_le_pow_right (by decide) (by decide))
    · obtain ⟨c, hc, rfl, rfl⟩ := hq
      walk_at "go"
      refine ⟨a, _, rfl, ha, fun p hp => ?_⟩
      rw [cutV_to3, ← List.map_take]
      refine seq_for (t := false) upd_same (fun i σ H3 => ∃ x sd, σ = [some (.ref a), some (.int (k : Int)), some (.int c), some (.int sd), x, none] ∧ 0 ≤ sd ∧ sd < 2147483629 ∧ H3 = upd H' p (.lst ((ns.take 3).map V.int))) ⟨none, _, rfl, by omega, by omega, rfl⟩ (fun i σ H3 _ ⟨_, _, _, _, _, e⟩ => by rw [e]; exact upd_same) (fun i v σ H3 hv hq => ?_) (fun σ H3 hq => ?_)
      · obtain ⟨x, sd, rfl, g0, g1, rfl⟩ := hq
        obtain ⟨u, hu, rfl⟩ := at_map hv
        walk_at "go"
        exact ⟨_, _, rfl, Int.emod_nonneg _ (by omega), Int.emod_lt_of_pos _ (by omega), rfl⟩
      · obtain ⟨x, sd, rfl, g0, g1, rfl⟩ := hq
        walk_at "go"
        have hn0 : 0 ≤ (if c < 0 then -c else c) := by split <;> omega
        have hn1 : (if c < 0 then -c else c).natAbs < 2 ^ 1048576 := by
          split
          · rw [Int.natAbs_neg]; exact hc
          · exact hc
        generalize (if c < 0 then -c else c) = n at hn0 hn1
        have fin : ∀ (u v y : Int) (q : Addr), (upd H' p (.lst ((ns.take 3).map V.int))) q = none → Q (.ref q) (upd (upd H' p (.lst ((ns.take 3).map V.int))) q (.lst [.int u, .int v, .int y])) := fun u v y q hq =>
          kk q u v y _ ((same_laid hp).trans (same_laid hq)) (same_free (same_laid hp) hq) upd_same
        refine iteD (fun h => ?_) (fun h => ?_)
        · walk_at "go"
          exact ⟨sz3, fun q hq => fin _ _ _ q hq⟩
        · walk_at "go"
          refine iteD (fun h2 => ?_) (fun h2 => ?_)
          · walk_at "go"
            have hd : (n / 2 ^ (3000 : Int).toNat).natAbs < 2 ^ 1048576 := by
              refine Nat.lt_of_le_of_lt ?_ hn1
              have h1 : n / 2 ^ (3000 : Int).toNat ≤ n := Int.ediv_le_self _ hn0
              have h3 : 0 ≤ n / 2 ^ (3000 : Int).toNat := Int.ediv_nonneg hn0 (Int.pow_nonneg (by decide))
              generalize n / 2 ^ (3000 : Int).toNat = e at h1 h3
              omega
            have hbits := intBits_lt (by decide) hd
            refine i_rI ⟨by decide, by omega⟩ ?_
            walk_at "go"
            exact ⟨sz3, fun q hq => fin _ _ _ q hq⟩
          · walk_at "go"
            exact ⟨sz3, fun q hq => fin _ _ _ q hq⟩
end
abbrev s_law_alphabet : Stmt := top 42
theorem sc_law_alphabet : FnScope ["source", "menu"] ["source"] (fnScope s_law_alphabet) := ⟨rfl, rfl, rfl, by decide +kernel, rfl, by decide +kernel, by decide +kernel⟩
def alMenu : List (List Nat) := [[97, 98], [98, 100], [120, 121, 122], [97], [97, 98, 99], [99, 101], [113]]
def sp_law_alphabet : Sp := fun vs H Q _ => ∃ (S : AS) (a : Addr), vs = [.ref a] ∧ S a ∧ Srcs S H ∧ ∀ al H', al ∈ alMenu → AlOk al → Ev S H H' → Q (.str (SX.S al)) H'
section
variable {P : Program} {w : World} {K : PySem.W.Frag} {mg : Str → Option Value} {base : Heap} {C : Addr} {r : Er}
set_option maxHeartbeats 4000000 in
theorem ok_law_alphabet {f : Addr} {fd : FuncData} (F : Def K mg "_law_alphabet" s_law_alphabet f fd) (T : Txt K mg C r) (b : Binds K fd ["source"] []) (c_law_pick : Cal P w K mg base 1 "_law_pick" sp_law_pick []) : Cal P w K mg base 2 "_law_alphabet" (sp_law_alphabet) [] := by
  refine cal0 F b .nil sc_law_alphabet (fun vs H Q E h => ?_) (fun cdv A outer s H vs Q E hr h => ?_)
  · obtain ⟨_, _, rfl, _⟩ := h
    rfl
  · obtain ⟨S, a, rfl, ha, hS, k⟩ := h
    refine ⟨_, (pss_cons (ps_set (i := 1) sc_law_alphabet.nd rfl (by first | exact Or.inl rfl | exact Or.inr rfl) (pe_lst (pa_cons pe_str (pa_cons pe_str (pa_cons pe_str (pa_cons pe_str (pa_cons pe_str (pa_cons pe_str (pa_cons pe_str (pa_cons pe_str (pa_cons pe_str (pa_cons pe_str (pa_cons pe_str (pa_cons pe_str pa_nil))))))))))))))
        (pss_one (ps_ret (pe_ix (ixK K rfl) (pv 1) (pe_c c_law_pick hr (by decide) rfl (pa_cons (pv 0) (pa_cons (pe_callB (lenK K rfl) (by rfl) T.b_len (by decide +kernel) (pa_cons (pv 1) pa_nil)) pa_nil))) (fun _ _ => rfl))))), ?_⟩
    walk_at "go"
    refine ⟨szl (by show 12 ≤ 16777216; decide), fun p hp => ?_⟩
    walk_at "go"
    have e1 := Ev.laid (o := .lst [.str "ab", .str "ab", .str "ab", .str "ab", .str "bd", .str "ab", .str "xyz", .str "a", .str "abc", .str "ce", .str "ab", .str "q"]) hS hp
    refine ⟨S, a, _, rfl, ha, e1.src, by decide, by decide, fun d H' h0 h1 e2 => ?_⟩
    have hp2 := e2.at (fun z => hS.notin hp z) upd_same
    have key : ∀ (al : List Nat) (z : Str), al ∈ alMenu → SX.S al = z → AlOk al → atI ([.str "ab", .str "ab", .str "ab", .str "ab", .str "bd", .str "ab", .str "xyz", .str "a", .str "abc", .str "ce", .str "ab", .str "q"] : List V) d = some (.str z) → rIx K (.ref p) (.int d) H' Q := fun al z hm e ok h => by
      refine i_ixL hp2 h ?_
      rw [← e]
      exact k al H' hm ok (e1.trans e2)
    have ok1 : ∀ a, 97 ≤ a ∧ a ≤ 122 → AlOk [a] := fun a h => ⟨by show 1 ≤ 1; decide, by show 1 ≤ 3; decide, fun c hc => by rw [List.mem_singleton.mp hc]; exact h, by simp⟩
    have h1' : d < 12 := h1
    have hd : d = 0 ∨ d = 1 ∨ d = 2 ∨ d = 3 ∨ d = 4 ∨ d = 5 ∨ d = 6 ∨ d = 7 ∨ d = 8 ∨ d = 9 ∨ d = 10 ∨ d = 11 := by omega
    have kab : AlOk [97, 98] := ⟨by decide, by decide, by decide, by decide⟩
    have kbd : AlOk [98, 100] := ⟨by decide, by decide, by decide, by decide⟩
    have kxyz : AlOk [120, 121, 122] := ⟨by decide, by decide, by decide, by decide⟩
    have ka : AlOk [97] := ⟨by decide, by decide, by decide, by decide⟩
    have kabc : AlOk [97, 98, 99] := ⟨by decide, by decide, by decide, by decide⟩
    have kce : AlOk [99, 101] := ⟨by decide, by decide, by decide, by decide⟩
    have kq : AlOk [113] := ⟨by decide, by decide, by decide, by decide⟩
    rcases hd with rfl | rfl | rfl | rfl | rfl | rfl | rfl | rfl | rfl | rfl | rfl | rfl
    · exact key [97, 98] "ab" (by decide) rfl kab rfl
    · exact key [97, 98] "ab" (by decide) rfl kab rfl
    · exact key [97, 98] "ab" (by decide) rfl kab rfl
    · exact key [97, 98] "ab" (by decide) rfl kab rfl
    · exact key [98, 100] "bd" (by decide) rfl kbd rfl
    · exact key [97, 98] "ab" (by decide) rfl kab rfl
    · exact key [120, 121, 122] "xyz" (by decide) rfl kxyz rfl
    · exact key [97] "a" (by decide) rfl ka rfl
    · exact key [97, 98, 99] "abc" (by decide) rfl kabc rfl
    · exact key [99, 101] "ce" (by decide) rfl kce rfl
    · exact key [97, 98] "ab" (by decide) rfl kab rfl
    · exact key [113] "q" (by decide) rfl kq rfl
end
abbrev s_law_word : Stmt := top 43
theorem sc_law_word : FnScope ["source", "alphabet", "most", "size", "k"] ["source", "alphabet", "most"] (fnScope s_law_word) := ⟨rfl, rfl, rfl, by decide +kernel, rfl, by decide +kernel, by decide +kernel⟩
def sp_law_word : Sp := fun vs H Q _ => ∃ (S : AS) (a : Addr) (al : List Nat) (most : Nat), vs = [.ref a, .str (SX.S al), .int (most : Int)] ∧ S a ∧ Srcs S H ∧ AlOk al ∧ most ≤ 1000 ∧ ∀ z w H', z.length ≤ most → Word al w z → Ev S H H' → Q (.str (SX.S z)) H'
section
variable {P : Program} {w : World} {K : PySem.W.Frag} {mg : Str → Option Value} {base : Heap} {C : Addr} {r : Er}
set_option maxHeartbeats 4000000 in
theorem ok_law_word {f : Addr} {fd : FuncData} (F : Def K mg "_law_word" s_law_word f fd) (T : Txt K mg C r) (b : Binds K fd ["source", "alphabet", "most"] []) (c_law_pick : Cal P w K mg base 1 "_law_pick" sp_law_pick []) : Cal P w K mg base 2 "_law_word" (sp_law_word) [] := by
  refine cal0 F b .nil sc_law_word (fun vs H Q E h => ?_) (fun cdv A outer s H vs Q E hr h => ?_)
  · obtain ⟨_, _, _, _, rfl, _⟩ := h
    rfl
  · obtain ⟨S, a, al, most, rfl, ha, hS, hal, h0, k⟩ := h
    refine ⟨_, (pss_cons (ps_set (i := 3) sc_law_word.nd rfl (by first | exact Or.inl rfl | exact Or.inr rfl) (pe_c c_law_pick hr (by decide) rfl (pa_cons (pv 0) (pa_cons (pe_op op_add (pv 2) pe_int) pa_nil))))
        (pss_one (ps_ret (joinK K rfl pe_str (pe_lc (own := [("k", 4)]) rfl sc_law_word.nd (pi_range1 (by rfl) T.b_range (pa_cons (pv 3) pa_nil)) (blkOk_by (by kernel_rfl)) (fun _ _ _ _ _ => (pg_name (i := 4) sc_law_word.nd rfl (by first | exact Or.inl rfl | exact Or.inr rfl))) (fun _ _ _ _ _ => pts_nil) (fun _ _ _ _ _ => (pe_ix (ixK K rfl) (pv 1) (pe_c c_law_pick hr (by decide) rfl (pa_cons (pv 0) (pa_cons (pe_callB (lenK K rfl) (by rfl) T.b_len (by decide +kernel) (pa_cons (pv 1) pa_nil)) pa_nil))) (fun _ _ => rfl)))))))), ?_⟩
    walk_at "go"
    refine ⟨S, a, _, rfl, ha, hS, by omega, by omega, fun d H1 h1 h2 e1 => ?_⟩
    obtain ⟨d, rfl⟩ := Int.eq_ofNat_of_zero_le h1
    walk_at "go"
    have hpos := hal.pos
    have hle := hal.le
    have hl : (SX.S al).length = al.length := SX.S_len al
    refine ⟨by omega, by omega, fun D hD => ?_⟩
    rw [show (((d : Nat) : Int)).toNat = d from Int.toNat_natCast d]
    have hS1 := e1.src
    refine rng0_lc (fun i H' => Ev S H1 H' ∧ ∃ w : List Nat, w.length = i ∧ (∀ x ∈ w, x < al.length) ∧ H' D = some (.lst ((w.map fun x => al.getD x 0).map fun c => V.str ⟨#[c]⟩))) ⟨.laid hS1 hD, [], rfl, by simp, upd_same⟩ (fun i H' hi hq => ?_) (fun H' hq => ?_)
    · obtain ⟨e2, w, hw, hw2, hD2⟩ := hq
      walk_at "go"
      refine i_lenS (szl (by omega)) ?_
      walk_at "go"
      refine ⟨S, a, _, rfl, ha, e2.src, by omega, by omega, fun x H2 h3 h4 e3 => ?_⟩
      obtain ⟨x, rfl⟩ := Int.eq_ofNat_of_zero_le h3
      have hx : x < al.length := by omega
      have hc : al[x]? = some (al.getD x 0) := by
        rw [List.getD_eq_getElem?_getD, List.getElem?_eq_getElem hx]
        rfl
      refine i_ixS (szl (by omega)) (S_at hc) ?_
      refine ⟨_, e3.at (hS1.notin hD) hD2, szlt (by rw [List.length_map, List.length_map]; omega), Ev.put hS1 (e2.trans e3) hD, w ++ [x], by simp [hw], fun y hy => ?_, by rw [upd_same, List.map_append, List.map_append]; rfl⟩
      rcases List.mem_append.mp hy with hy | hy
      · exact hw2 y hy
      · rw [List.mem_singleton.mp hy]; exact hx
    · obtain ⟨e2, w, hw, hw2, hD2⟩ := hq
      walk_at "go"
      have hj := join_one (w.map fun x => al.getD x 0)
      refine ⟨"", D, (w.map fun x => al.getD x 0).map fun c => (⟨#[c]⟩ : Str), rfl, rfl, .inl (SqL.of (by rw [hD2, List.map_map, List.map_map, List.map_map]; rfl)), ?_, ?_⟩
      · rw [join_sum, List.length_map, List.length_map, show (("" : Str).length) = 0 from rfl]
        omega
      · rw [hj]
        exact k _ w H' (by rw [List.length_map]; omega) ⟨hw2, rfl⟩ (e1.trans e2)
end
abbrev s_law_reader : Stmt := top 44
theorem sc_law_reader : FnScope ["source", "many", "most", "size", "moves", "good", "p", "t"] ["source", "many", "most"] (fnScope s_law_reader) := ⟨rfl, rfl, rfl, by decide +kernel, rfl, by decide +kernel, by decide +kernel⟩
def sp_law_reader : Sp := fun vs H Q _ => ∃ (S : AS) (a : Addr) (m most : Nat), vs = [.ref a, .int (m : Int), .int (most : Int)] ∧ S a ∧ Srcs S H ∧ 0 < m ∧ m ≤ 3 ∧ 0 < most ∧ most ≤ 60 ∧ ∀ p rs gd H', Ev S H H' → MachL S H' p rs gd → WF m rs → GOK rs.length gd → rs.length ≤ most → Q (.ref p) H'
section
variable {P : Program} {w : World} {K : PySem.W.Frag} {mg : Str → Option Value} {base : Heap} {C : Addr} {r : Er}
set_option maxHeartbeats 4000000 in
theorem ok_law_reader {f : Addr} {fd : FuncData} (F : Def K mg "_law_reader" s_law_reader f fd) (T : Txt K mg C r) (b : Binds K fd ["source", "many", "most"] []) (c_law_pick : Cal P w K mg base 1 "_law_pick" sp_law_pick []) : Cal P w K mg base 2 "_law_reader" (sp_law_reader) [] := by
  refine cal0 F b .nil sc_law_reader (fun vs H Q E h => ?_) (fun cdv A outer s H vs Q E hr h => ?_)
  · obtain ⟨_, _, _, _, rfl, _⟩ := h
    rfl
  · obtain ⟨S, a, m, most, rfl, ha, hS, hm0, hm, h0, h1, k⟩ := h
    refine ⟨_, (pss_cons (ps_set (i := 3) sc_law_reader.nd rfl (by first | exact Or.inl rfl | exact Or.inr rfl) (pe_op op_add pe_int (pe_c c_law_pick hr (by decide) rfl (pa_cons (pv 0) (pa_cons (pv 2) pa_nil)))))
        (pss_cons (ps_setLc (i := 4) (own := [("p", 6)]) rfl sc_law_reader.nd rfl rfl (sw_true rfl rfl rfl (by decide +kernel)) (pi_range1 (by rfl) T.b_range (pa_cons (pv 3) pa_nil)) (blkOk_by (by kernel_rfl)) (fun _ _ _ _ _ => (pg_name (i := 6) sc_law_reader.nd rfl (by first | exact Or.inl rfl | exact Or.inr rfl))) (fun _ _ _ _ _ => pts_nil) (fun _ _ _ _ _ => (pe_lc (own := [("t", 7)]) rfl sc_law_reader.nd (pi_range1 (by rfl) T.b_range (pa_cons (pv 1) pa_nil)) (blkOk_by (by kernel_rfl)) (fun _ _ _ _ _ => (pg_name (i := 7) sc_law_reader.nd rfl (by first | exact Or.inl rfl | exact Or.inr rfl))) (fun _ _ _ _ _ => pts_nil) (fun _ _ _ _ _ => (pe_c c_law_pick hr (by decide) rfl (pa_cons (pv 0) (pa_cons (pv 3) pa_nil)))))))
        (pss_cons (ps_setLc (i := 5) (own := [("p", 6)]) rfl sc_law_reader.nd rfl rfl (sw_true rfl rfl rfl (by decide +kernel)) (pi_range1 (by rfl) T.b_range (pa_cons (pv 3) pa_nil)) (blkOk_by (by kernel_rfl)) (fun _ _ _ _ _ => (pg_name (i := 6) sc_law_reader.nd rfl (by first | exact Or.inl rfl | exact Or.inr rfl))) (fun _ _ _ _ _ => (pts_one (pt_cmpR op_eq (pe_c c_law_pick hr (by decide) rfl (pa_cons (pv 0) (pa_cons pe_int pa_nil))) pe_int (nomark _)))) (fun _ _ _ _ _ => (pv 6)))
        (pss_cons (ps_if (PW.pt (pw_and (pt_cmpR op_eq (pe_callB (lenK K rfl) (by rfl) T.b_len (by decide +kernel) (pa_cons (pv 5) pa_nil)) pe_int (nomark _)) (pw_and1 (pt_cmpR op_gt (pe_c c_law_pick hr (by decide) rfl (pa_cons (pv 0) (pa_cons pe_int pa_nil))) pe_int (nomark _))))) (pss_one (ps_set (i := 5) sc_law_reader.nd rfl (by first | exact Or.inl rfl | exact Or.inr rfl) (pe_lst (pa_cons (pe_c c_law_pick hr (by decide) rfl (pa_cons (pv 0) (pa_cons (pv 3) pa_nil))) pa_nil)))) pss_nil)
        (pss_one (ps_ret (pe_tup (pa_cons (pv 4) (pa_cons (pv 5) pa_nil))))))))), ?_⟩
    walk_at "go"
    refine ⟨S, a, _, rfl, ha, hS, by omega, by omega, fun d H1 g0 g1 e1 => ?_⟩
    obtain ⟨d, rfl⟩ := Int.eq_ofNat_of_zero_le g0
    have hS1 := e1.src
    walk_at "go"
    refine ⟨by omega, by omega, fun D hD => ?_⟩
    rw [show (1 + ((d : Nat) : Int)).toNat = d + 1 by omega]
    generalize hsz : d + 1 = size
    have hsz1 : (1 + (d : Int)) = (size : Int) := by omega
    have hsz2 : size ≤ most := by omega
    have hsz3 : 0 < size := by omega
    rw [hsz1]
    refine rng0_lc (fun i H' => Ev S H1 H' ∧ ∃ bs rws, H' D = some (.lst (bs.map V.ref)) ∧ Paired (fun a r => IntsL (fun b => S b ∨ b = D) H' a r) bs rws ∧ rws.length = i ∧ ∀ r ∈ rws, r.length = m ∧ ∀ t ∈ r, t < size) ⟨.laid hS1 hD, [], [], upd_same, .nil, rfl, by simp⟩ (fun i H' hi hq => ?_) (fun H' hq => ?_)
    · obtain ⟨e2, bs, rws, hD2, hbs, hlen, hrw⟩ := hq
      have hS2 := e2.src
      walk_at "go"
      refine ⟨by omega, by omega, fun E hE => ?_⟩
      rw [show ((m : Nat) : Int).toNat = m from Int.toNat_natCast m]
      refine rng0_lc (fun q H3 => Ev S H' H3 ∧ ∃ ns : List Nat, ns.length = q ∧ (∀ t ∈ ns, t < size) ∧ H3 E = some (.lst (ns.map vn))) ⟨.laid hS2 hE, [], rfl, by simp, upd_same⟩ (fun q H3 hq3 hq => ?_) (fun H3 hq => ?_)
      · obtain ⟨e3, ns, hns, hns2, hE3⟩ := hq
        walk_at "go"
        refine ⟨S, a, _, rfl, ha, e3.src, by omega, by omega, fun x H4 g2 g3 e4 => ?_⟩
        obtain ⟨x, rfl⟩ := Int.eq_ofNat_of_zero_le g2
        refine ⟨_, e4.at (hS2.notin hE) hE3, szlt (by rw [List.length_map]; omega), Ev.put hS2 (e3.trans e4) hE, ns ++ [x], by simp [hns], fun y hy => ?_, by rw [upd_same, List.map_append]; rfl⟩
        rcases List.mem_append.mp hy with hy | hy
        · exact hns2 y hy
        · rw [List.mem_singleton.mp hy]; omega
      · obtain ⟨e3, ns, hns, hns2, hE3⟩ := hq
        have hED : E ≠ D := fun z => by rw [z, hD2] at hE; cases hE
        have hD3 := e3.at (hS1.notin hD) hD2
        refine ⟨_, hD3, szlt (by rw [List.length_map, hbs.length]; omega), Ev.put hS1 (e2.trans e3) hD, bs ++ [E], rws ++ [ns], by rw [upd_same, List.map_append]; rfl, ?_, by simp [hlen], fun r hr => ?_⟩
        · have kk : Kp (fun b => S b ∨ b = D) H' (upd H3 D (.lst (bs.map V.ref ++ [V.ref E]))) := fun b u n z => by
            rw [upd_ne (fun y => n (.inr y))]
            exact e3.kp b u (fun y => n (.inl y)) z
          exact U.Paired.snoc (Paired.mapP hbs fun b r z => z.kp kk fun _ z => z) ⟨fun z => z.elim (hS2.notin hE) hED, by rw [upd_ne hED]; exact hE3⟩
        · rcases List.mem_append.mp hr with hr | hr
          · exact hrw r hr
          · rw [List.mem_singleton.mp hr]; exact ⟨hns, hns2⟩
    · obtain ⟨e2, bs, rws, hD2, hbs, hlen, hrw⟩ := hq
      walk_at "go"
      refine ⟨by omega, by omega, fun G hG => ?_⟩
      rw [Int.toNat_natCast]
      have hS2 := e2.src
      have hrows : RowsL S H' D rws := ⟨hS1.notin hD, bs, hD2, Paired.mapP hbs fun b r z => z.weak fun _ y => .inl y⟩
      have hwf : WF m rws := .of (by omega) (by omega) hm (fun r hr => (hrw r hr).1) (fun r hr t ht => by rw [hlen]; exact (hrw r hr).2 t ht)
      refine rng0_lc (fun i H3 => Ev S H' H3 ∧ ∃ gd : List Nat, H3 G = some (.lst (gd.map vn)) ∧ gd.Pairwise (· < ·) ∧ (∀ x ∈ gd, x < i) ∧ gd.length ≤ i) ⟨.laid hS2 hG, [], upd_same, .nil, by simp, Nat.le_refl _⟩ (fun i H3 hi hq => ?_) (fun H3 hq => ?_)
      · obtain ⟨e3, gd, hG3, hp, hlt, hgl⟩ := hq
        walk_at "go"
        refine ⟨S, a, _, rfl, ha, e3.src, by omega, by omega, fun x H4 g2 g3 e4 => ?_⟩
        walk_at "go"
        have hG4 := e4.at (hS2.notin hG) hG3
        refine iteD (fun hx => ?_) (fun hx => ?_)
        · walk_at "go"
          refine ⟨_, hG4, szlt (by rw [List.length_map]; omega), Ev.put hS2 (e3.trans e4) hG, gd ++ [i], by rw [upd_same, List.map_append]; rfl, ?_, fun y hy => ?_, by simp; omega⟩
          · rw [List.pairwise_append]
            exact ⟨hp, by simp, fun y hy z hz => by rw [List.mem_singleton.mp hz]; exact hlt y hy⟩
          · rcases List.mem_append.mp hy with hy | hy
            · exact Nat.lt_succ_of_lt (hlt y hy)
            · rw [List.mem_singleton.mp hy]; omega
        · exact ⟨e3.trans e4, gd, hG4, hp, fun y hy => Nat.lt_succ_of_lt (hlt y hy), by omega⟩
      · obtain ⟨e3, gd, hG3, hp, hlt, hgl⟩ := hq
        have fin : ∀ (Gq : Addr) (gd' : List Nat) (H5 : Hp), Ev S H' H5 → ¬ S Gq → H5 Gq = some (.lst (gd'.map vn)) → GOK size gd' → ∀ q, H5 q = none → Q (.ref q) (upd H5 q (.tup [.ref D, .ref Gq])) := fun Gq gd' H5 e5 nS hGq ok q hq => by
          have e6 : Ev S H5 (upd H5 q (.tup [.ref D, .ref Gq])) := .laid e5.src hq
          exact k q rws gd' _ (((e1.trans e2).trans e5).trans e6) ⟨e5.src.notin hq, D, Gq, upd_same, (hrows.ev e5).ev e6, nS, e6.at nS hGq⟩ hwf (by rw [hlen]; exact ok) (by omega)
        walk_at "go"
        have gok1 : GOK size gd := ⟨hp, hlt⟩
        refine iteD (fun hx => ?_) (fun hx => ?_)
        · walk_at "go"
          refine ⟨S, a, _, rfl, ha, e3.src, by omega, by omega, fun x H4 g2 g3 e4 => ?_⟩
          walk_at "go"
          refine iteD (fun hx => ?_) (fun hx => ?_)
          · walk_at "go"
            refine ⟨S, a, _, rfl, ha, e4.src, by omega, by omega, fun y H5 g4 g5 e5 => ?_⟩
            obtain ⟨y, rfl⟩ := Int.eq_ofNat_of_zero_le g4
            walk_at "go"
            refine ⟨sz1, fun G2 hG2 => ?_⟩
            walk_at "go"
            refine ⟨sz2, fun q hq => ?_⟩
            have e6 : Ev S H5 (upd H5 G2 (.lst [.int (y : Int)])) := .laid e5.src hG2
            exact fin G2 [y] _ (((e3.trans e4).trans e5).trans e6) (e5.src.notin hG2) upd_same ⟨by simp, fun z hz => by rw [List.mem_singleton.mp hz]; omega⟩ q hq
          · walk_at "go"
            exact ⟨sz2, fun q hq => fin G gd _ (e3.trans e4) (hS2.notin hG) (e4.at (hS2.notin hG) hG3) gok1 q hq⟩
        · walk_at "go"
          exact ⟨sz2, fun q hq => fin G gd _ e3 (hS2.notin hG) hG3 gok1 q hq⟩
end
abbrev s_law_room : Stmt := top 45
theorem sc_law_room : FnScope ["alphabet", "moves", "text", "room", "letter"] ["alphabet", "moves", "text"] (fnScope s_law_room) := ⟨rfl, rfl, rfl, by decide +kernel, rfl, by decide +kernel, by decide +kernel⟩
def sp_law_room : Sp := fun vs H Q _ => ∃ (Z : AS) (al : List Nat) (p : Addr) (rs : Rws) (w z : List Nat), vs = [.str (SX.S al), .ref p, .str (SX.S z)] ∧ Rows Z H p rs ∧ AlOk al ∧ WF al.length rs ∧ Word al w z ∧ Q (vn (run rs 0 w)) H
section
variable {P : Program} {w : World} {K : PySem.W.Frag} {mg : Str → Option Value} {base : Heap} {C : Addr} {r : Er}
set_option maxHeartbeats 4000000 in
theorem ok_law_room {f : Addr} {fd : FuncData} (F : Def K mg "_law_room" s_law_room f fd) (T : Txt K mg C r) (b : Binds K fd ["alphabet", "moves", "text"] []) : Cal P w K mg base 1 "_law_room" (sp_law_room) [] := by
  refine cal0 F b .nil sc_law_room (fun vs H Q E h => ?_) (fun cdv A outer s H vs Q E hr h => ?_)
  · obtain ⟨_, _, _, _, _, _, rfl, _⟩ := h
    rfl
  · obtain ⟨Z, al, p, rs, w, z, rfl, hp, ha, hw, hz, k⟩ := h
    refine ⟨_, (pss_cons (ps_set (i := 3) sc_law_room.nd rfl (by first | exact Or.inl rfl | exact Or.inr rfl) pe_int)
        (pss_cons (ps_for PassesOwn.never rfl (pi_str (pv 2)) (pg_name (i := 4) sc_law_room.nd rfl (by first | exact Or.inl rfl | exact Or.inr rfl))
        (pss_one (ps_set (i := 3) sc_law_room.nd rfl (by first | exact Or.inl rfl | exact Or.inr rfl) (pe_ix (ixK K rfl) (pe_ix (ixK K rfl) (pv 1) (pv 3) (fun _ _ => rfl)) (sidxK K rfl (pv 0) (pa_cons (pv 4) pa_nil)) (fun _ _ => rfl)))))
        (pss_one (ps_ret (pv 3))))), ?_⟩
    walk_at "go"
    have hlw := hz.len
    refine str_for (fun i σ H' => ∃ x, i ≤ w.length ∧ H' = H ∧ σ = [some (.str (SX.S al)), some (.ref p), some (.str (SX.S z)), some (vn (run rs 0 (w.take i))), x]) ⟨none, Nat.zero_le _, rfl, rfl⟩ (fun i c σ H' hc hq => ?_) (fun σ H' hq => ?_)
    · obtain ⟨x, hi, rfl, rfl⟩ := hq
      have hc' : z[i]? = some c := by simpa [SX.S] using hc
      obtain ⟨a, ha1, ha2, ha3⟩ := hz.at hc'
      have hi' := (List.getElem?_eq_some_iff.mp ha1).1
      have hlt : run rs 0 (w.take i) < rs.length := hw.run_lt hw.pos fun b hb => hz.1 b (List.mem_of_mem_take hb)
      obtain ⟨t, vs, b, hv1, hv2, hv3, hb1, tb, hb2⟩ := hp.at hlt
      walk_at "go"
      refine i_ixQ hv1 hv3 ?_
      walk_at "go"
      refine i_sidx ha.nd ha3 ?_
      walk_at "go"
      refine i_ixQ hb2 (vn_at (hw.stp_at hlt ha2)) ?_
      walk_at "go"
      exact ⟨some (.str ⟨#[c]⟩), hi', rfl, by rw [take_at ha1, run_snoc]; rfl⟩
    · obtain ⟨x, hi, rfl, rfl⟩ := hq
      walk_at "go"
      have e : (w.take (SX.S z).cps.size) = w := by
        rw [show (SX.S z).cps.size = w.length from (SX.S_len z).trans hlw, List.take_length]
      rw [e]
      exact k
end
abbrev s_law_is_number : Stmt := top 47
theorem sc_law_is_number : FnScope ["thing", "low", "high"] ["thing", "low", "high"] (fnScope s_law_is_number) := ⟨rfl, rfl, rfl, by decide +kernel, rfl, by decide +kernel, by decide +kernel⟩
def sp_law_is_number : Sp := fun vs H Q _ => ∃ (i lo hi : Int), vs = [.int i, .int lo, .int hi] ∧ lo ≤ i ∧ i ≤ hi ∧ Q (.bl true) H
section
variable {P : Program} {w : World} {K : PySem.W.Frag} {mg : Str → Option Value} {base : Heap} {C : Addr} {r : Er}
set_option maxHeartbeats 4000000 in
theorem ok_law_is_number {f : Addr} {fd : FuncData} (F : Def K mg "_law_is_number" s_law_is_number f fd) (T : Txt K mg C r) (b : Binds K fd ["thing", "low", "high"] []) : Cal P w K mg base 1 "_law_is_number" (sp_law_is_number) [] := by
  refine cal0 F b .nil sc_law_is_number (fun vs H Q E h => ?_) (fun cdv A outer s H vs Q E hr h => ?_)
  · obtain ⟨_, _, _, rfl, _⟩ := h
    rfl
  · obtain ⟨i, lo, hi, rfl, h1, h2, k⟩ := h
    refine ⟨_, (pss_one (ps_ret (pe_and (pe_callB (isiK K rfl) (by rfl) T.b_isinstance (by decide +kernel) (pa_cons (pv 0) (pa_cons (pe_bltn (v := .ty "int") (u := .type "int") (by rfl) T.b_int (by decide +kernel) rfl) pa_nil))) (pe_and (pe_not (pe_callB (isiK K rfl) (by rfl) T.b_isinstance (by decide +kernel) (pa_cons (pv 0) (pa_cons (pe_bltn (v := .ty "bool") (u := .type "bool") (by rfl) T.b_bool (by decide +kernel) rfl) pa_nil)))) (pe_one (pe_chain op_le op_le (pv 1) (pv 0) (pv 2))))))), ?_⟩
    walk_at "go"
    refine i_isi (.base (.int i)) (r := true) (by decide +kernel) ?_
    walk_at "go"
    refine i_isi (.base (.int i)) (r := false) (by decide +kernel) ?_
    walk_at "go"
    refine ite_dt h1 ?_
    walk_at "go"
    rw [decide_eq_true h2]
    exact k
end
abbrev s_law_is_reader : Stmt := top 46
theorem sc_law_is_reader : FnScope ["reader", "alphabet", "size", "row", "room", "k"] ["reader", "alphabet"] (fnScope s_law_is_reader) := ⟨rfl, rfl, rfl, by decide +kernel, rfl, by decide +kernel, by decide +kernel⟩
def sp_law_is_reader (C : Addr) : Sp := fun vs H Q _ => ∃ (Z : AS) (p : Addr) (al : List Nat) (rs : Rws) (gd : List Nat), vs = [.ref p, .str (SX.S al)] ∧ Rd C Z H p al rs gd ∧ AlOk al ∧ WF al.length rs ∧ GOK rs.length gd ∧ ∀ H', Same H H' → Q (.bl true) H'
section
variable {P : Program} {w : World} {K : PySem.W.Frag} {mg : Str → Option Value} {base : Heap} {C : Addr} {r : Er}
set_option maxHeartbeats 4000000 in
theorem ok_law_is_reader {f : Addr} {fd : FuncData} (F : Def K mg "_law_is_reader" s_law_is_reader f fd) (T : Txt K mg C r) (b : Binds K fd ["reader", "alphabet"] []) (c_law_is_number : Cal P w K mg base 1 "_law_is_number" sp_law_is_number []) : Cal P w K mg base 2 "_law_is_reader" (sp_law_is_reader C) [] := by
  refine cal0 F b .nil sc_law_is_reader (fun vs H Q E h => ?_) (fun cdv A outer s H vs Q E hr h => ?_)
  · obtain ⟨_, _, _, _, _, rfl, _⟩ := h
    rfl
  · obtain ⟨Z, p, al, rs, gd, rfl, hp, ha, hw, hg, k⟩ := h
    refine ⟨_, (pss_cons (ps_if (PW.pt (pw_or (pt_not (pt_val (pe_callB (call_isC T.ins) (by rfl) T.b_isinstance (by decide +kernel) (pa_cons (pv 0) (pa_cons (pe_gc (v := .ref C) rfl ⟨_, T.mg_Reader, rfl⟩) pa_nil))))) (pw_or (pt_cmpR op_ne (fldK K rfl (pv 0) rfl) (pv 1) (nomark _)) (pw_or1 (pt_not (pt_val (pe_callB (isiK K rfl) (by rfl) T.b_isinstance (by decide +kernel) (pa_cons (fldK K rfl (pv 0) rfl) (pa_cons (pe_bltn (v := .ty "tuple") (u := .type "tuple") (by rfl) T.b_tuple (by decide +kernel) rfl) pa_nil))))))))) (pss_one (ps_ret pe_bl)) pss_nil)
        (pss_cons (ps_set (i := 2) sc_law_is_reader.nd rfl (by first | exact Or.inl rfl | exact Or.inr rfl) (pe_callB (lenK K rfl) (by rfl) T.b_len (by decide +kernel) (pa_cons (fldK K rfl (pv 0) rfl) pa_nil)))
        (pss_cons (ps_if (PW.pt (pw_or (pt_cmpR op_eq (pv 2) pe_int (nomark _)) (pw_or1 (pt_not (pt_val (pe_callB (isiK K rfl) (by rfl) T.b_isinstance (by decide +kernel) (pa_cons (fldK K rfl (pv 0) rfl) (pa_cons (pe_bltn (v := .ty "tuple") (u := .type "tuple") (by rfl) T.b_tuple (by decide +kernel) rfl) pa_nil)))))))) (pss_one (ps_ret pe_bl)) pss_nil)
        (pss_cons (ps_for PassesOwn.never rfl (seqK K rfl (fldK K rfl (pv 0) rfl)) (pg_name (i := 3) sc_law_is_reader.nd rfl (by first | exact Or.inl rfl | exact Or.inr rfl))
        (pss_cons (ps_if (PW.pt (pw_or (pt_not (pt_val (pe_callB (isiK K rfl) (by rfl) T.b_isinstance (by decide +kernel) (pa_cons (pv 3) (pa_cons (pe_bltn (v := .ty "tuple") (u := .type "tuple") (by rfl) T.b_tuple (by decide +kernel) rfl) pa_nil))))) (pw_or1 (pt_cmpR op_ne (pe_callB (lenK K rfl) (by rfl) T.b_len (by decide +kernel) (pa_cons (pv 3) pa_nil)) (pe_callB (lenK K rfl) (by rfl) T.b_len (by decide +kernel) (pa_cons (pv 1) pa_nil)) (nomark _))))) (pss_one (ps_ret pe_bl)) pss_nil)
        (pss_one (ps_if (pt_not (pt_val (pe_callB (allK K rfl rfl) (by rfl) T.b_all (by decide +kernel) (pa_cons (pe_lc (own := [("room", 4)]) rfl sc_law_is_reader.nd (seqK K rfl (pv 3)) (blkOk_by (by kernel_rfl)) (fun _ _ _ _ _ => (pg_name (i := 4) sc_law_is_reader.nd rfl (by first | exact Or.inl rfl | exact Or.inr rfl))) (fun _ _ _ _ _ => pts_nil) (fun _ _ _ _ _ => (pe_c c_law_is_number hr (by decide) rfl (pa_cons (pv 4) (pa_cons pe_int (pa_cons (pe_op op_sub (pv 2) pe_int) pa_nil)))))) pa_nil)))) (pss_one (ps_ret pe_bl)) pss_nil))))
        (pss_cons (ps_if (pt_not (pt_val (pe_callB (allK K rfl rfl) (by rfl) T.b_all (by decide +kernel) (pa_cons (pe_lc (own := [("room", 4)]) rfl sc_law_is_reader.nd (seqK K rfl (fldK K rfl (pv 0) rfl)) (blkOk_by (by kernel_rfl)) (fun _ _ _ _ _ => (pg_name (i := 4) sc_law_is_reader.nd rfl (by first | exact Or.inl rfl | exact Or.inr rfl))) (fun _ _ _ _ _ => pts_nil) (fun _ _ _ _ _ => (pe_c c_law_is_number hr (by decide) rfl (pa_cons (pv 4) (pa_cons pe_int (pa_cons (pe_op op_sub (pv 2) pe_int) pa_nil)))))) pa_nil)))) (pss_one (ps_ret pe_bl)) pss_nil)
        (pss_one (ps_ret (pe_callB (allK K rfl rfl) (by rfl) T.b_all (by decide +kernel) (pa_cons (pe_lc (own := [("k", 5)]) rfl sc_law_is_reader.nd (pi_range1 (by rfl) T.b_range (pa_cons (pe_op op_sub (pe_callB (lenK K rfl) (by rfl) T.b_len (by decide +kernel) (pa_cons (fldK K rfl (pv 0) rfl) pa_nil)) pe_int) pa_nil)) (blkOk_by (by kernel_rfl)) (fun _ _ _ _ _ => (pg_name (i := 5) sc_law_is_reader.nd rfl (by first | exact Or.inl rfl | exact Or.inr rfl))) (fun _ _ _ _ _ => pts_nil) (fun _ _ _ _ _ => (pe_cmpR op_lt (pe_ix (ixK K rfl) (fldK K rfl (pv 0) rfl) (pv 5) (fun _ _ => rfl)) (pe_ix (ixK K rfl) (fldK K rfl (pv 0) rfl) (pe_op op_add (pv 5) pe_int) (fun _ _ => rfl)) (nomark _)))) pa_nil))))))))), ?_⟩
    walk_at "go"
    obtain ⟨hpZ, dx, pm, pg, hp1, hp2, hp3⟩ := hp
    obtain ⟨_, as, hp4, hp5⟩ := id hp2
    have hlen : (as.map V.ref).length = rs.length := by rw [List.length_map, hp5.length]
    have hle := hw.le
    have hpos := hw.pos
    have ha3 := ha.le
    have hl : (SX.S al).length = al.length := SX.S_len al
    refine ⟨p, dx, _, rfl, hp1, ?_⟩
    walk_at "go"
    refine i_fldR hp1 T.cl T.nA (flds_al al pm pg) ?_
    walk_at "go"
    refine ite_ndf rfl ?_
    walk_at "go"
    refine i_fldR hp1 T.cl T.nM (flds_mo al pm pg) ?_
    walk_at "go"
    refine i_isi (a := "tuple") (r := true) (.base (.tup hp4)) (by decide +kernel) ?_
    walk_at "go"
    refine i_fldR hp1 T.cl T.nM (flds_mo al pm pg) ?_
    walk_at "go"
    rw [hlen]
    refine ite_df (by omega) ?_
    walk_at "go"
    refine i_fldR hp1 T.cl T.nG (flds_go al pm pg) ?_
    walk_at "go"
    refine i_isi (a := "tuple") (r := true) (.base (.tup hp3.2)) (by decide +kernel) ?_
    walk_at "go"
    refine i_fldR hp1 T.cl T.nM (flds_mo al pm pg) ?_
    refine seq_for (t := true) hp4 (fun i σ H' => ∃ x4 : Option V, σ = [some (.ref p), some (.str (SX.S al)), some (vn rs.length), x4, none, none] ∧ Same H H') ⟨none, rfl, Same.refl H⟩ (fun i σ H' _ ⟨_, _, e⟩ => e _ _ hp4) (fun i v σ H' hv hq => ?_) (fun σ H' hq => ?_)
    · obtain ⟨x4, rfl, s1⟩ := hq
      obtain ⟨a, hva, rfl⟩ := at_map hv
      obtain ⟨rw', hrw, hia⟩ := Paired.at0 hp5 hva
      have hmem : rw' ∈ rs := List.mem_of_getElem? hrw
      have ha1 := s1 _ _ hia.2
      have hwid := hw.wid _ hmem
      walk_at "go"
      refine i_isi (a := "tuple") (r := true) (.base (.tup ha1)) (by decide +kernel) ?_
      walk_at "go"
      refine i_lenS (szl (by omega)) ?_
      walk_at "go"
      rw [List.length_map]
      refine ite_ndf (by omega) ?_
      walk_at "go"
      refine seq_lc (t := true) ha1 (fun D hD => ⟨fun j H3 => j ≤ rw'.length ∧ H3 = upd H' D (.lst (List.replicate j (.bl true))), ⟨Nat.zero_le _, rfl⟩, fun j H3 _ ⟨_, e⟩ => by rw [e, upd_ne (ne_of_none ha1 hD)]; exact ha1, fun j v H3 hvj hp3 => ?_, fun H3 hp3 => ?_⟩)
      · obtain ⟨_, rfl⟩ := hp3
        obtain ⟨u, hu, rfl⟩ := at_map hvj
        have hlt : u < rs.length := hw.lt _ hmem u (List.mem_of_getElem? hu)
        have hj : j < rw'.length := (List.getElem?_eq_some_iff.mp hu).1
        walk_at "go"
        exact ⟨u, 0, _, rfl, by omega, by omega, _, upd_same, szlt (by rw [List.length_replicate]; omega), hj, upd_lst (rep_snoc j (V.bl true))⟩
      · obtain ⟨_, rfl⟩ := hp3
        walk_at "go"
        refine i_all (bs := List.replicate _ true) (by rw [upd_same, map_rep]) (all_rep _) ?_
        walk_at "go"
        exact ⟨_, rfl, s1.trans (same_laid hD)⟩
    · obtain ⟨x4, rfl, s1⟩ := hq
      have hg1 := s1 _ _ hp3.2
      walk_at "go"
      refine i_fldR (s1 _ _ hp1) T.cl T.nG (flds_go al pm pg) ?_
      refine seq_lc (t := true) hg1 (fun D hD => ⟨fun j H3 => j ≤ gd.length ∧ H3 = upd H' D (.lst (List.replicate j (.bl true))), ⟨Nat.zero_le _, rfl⟩, fun j H3 _ ⟨_, e⟩ => by rw [e, upd_ne (ne_of_none hg1 hD)]; exact hg1, fun j v H3 hvj hp3 => ?_, fun H3 hp3 => ?_⟩)
      · obtain ⟨_, rfl⟩ := hp3
        obtain ⟨u, hu, rfl⟩ := at_map hvj
        have hlt : u < rs.length := hg.lt u (List.mem_of_getElem? hu)
        have hj : j < gd.length := (List.getElem?_eq_some_iff.mp hu).1
        have hgl : gd.length ≤ rs.length := nodup_le (hg.inc.imp fun z => Nat.ne_of_lt z) hg.lt
        walk_at "go"
        exact ⟨u, 0, _, rfl, by omega, by omega, _, upd_same, szlt (by rw [List.length_replicate]; omega), hj, upd_lst (rep_snoc j (V.bl true))⟩
      · obtain ⟨_, rfl⟩ := hp3
        have hgl : gd.length ≤ rs.length := nodup_le (hg.inc.imp fun z => Nat.ne_of_lt z) hg.lt
        walk_at "go"
        refine i_all (bs := List.replicate _ true) (by rw [upd_same, map_rep]) (all_rep _) ?_
        walk_at "go"
        have hp1' := s1 _ _ hp1
        have hg1' := s1 _ _ hp3.2
        have hgD : (upd H' D (.lst (List.replicate (gd.map vn).length (.bl true)))) pg = some (.tup (gd.map vn)) := by rw [upd_ne (ne_of_none hg1' hD)]; exact hg1'
        have hpD : (upd H' D (.lst (List.replicate (gd.map vn).length (.bl true)))) p = some (.ins C dx (flds al pm pg)) := by rw [upd_ne (ne_of_none hp1' hD)]; exact hp1'
        refine i_fldR hpD T.cl T.nG (flds_go al pm pg) ?_
        walk_at "go"
        rw [List.length_map] at hgD hpD ⊢
        refine ⟨by omega, by omega, fun E hE => ?_⟩
        refine rng0_lc (fun i H3 => i ≤ gd.length ∧ H3 = upd (upd H' D (.lst (List.replicate gd.length (.bl true)))) E (.lst (List.replicate i (.bl true)))) ⟨Nat.zero_le _, rfl⟩ (fun i H3 hi hq => ?_) (fun H3 hq => ?_)
        · obtain ⟨_, rfl⟩ := hq
          have hi2 : i + 1 < gd.length := by omega
          walk_at "go"
          refine i_fldR (by rw [upd_ne (ne_of_none hpD hE)]; exact hpD) T.cl T.nG (flds_go al pm pg) ?_
          walk_at "go"
          refine i_ixT (by rw [upd_ne (ne_of_none hgD hE)]; exact hgD) (vn_at (List.getElem?_eq_getElem (by omega : i < gd.length))) ?_
          walk_at "go"
          refine i_fldR (by rw [upd_ne (ne_of_none hpD hE)]; exact hpD) T.cl T.nG (flds_go al pm pg) ?_
          walk_at "go"
          refine i_ixT (by rw [upd_ne (ne_of_none hgD hE)]; exact hgD) (v := vn (gd[i + 1]'hi2)) (by exact vn_at (List.getElem?_eq_getElem hi2)) ?_
          walk_at "go"
          have hlt2 : gd[i]'(by omega) < gd[i + 1]'hi2 := List.pairwise_iff_getElem.mp hg.inc i (i + 1) _ _ (by omega)
          refine ⟨_, upd_same, szlt (by rw [List.length_replicate]; omega), by omega, upd_lst ?_⟩
          rw [decide_eq_true (by omega)]
          exact rep_snoc i (V.bl true)
        · obtain ⟨_, rfl⟩ := hq
          walk_at "go"
          exact i_all (bs := List.replicate _ true) (by rw [upd_same, map_rep]) (all_rep _) (k _ (((s1.trans (same_laid hD))).trans (same_laid hE)))
end
abbrev s_law_words : Stmt := top 48
theorem sc_law_words : FnScope ["error", "words"] ["error"] (fnScope s_law_words) := ⟨rfl, rfl, rfl, by decide +kernel, rfl, by decide +kernel, by decide +kernel⟩
/-- what is shown of a thing -/
structure Shw (K : PySem.W.Frag) (H : Hp) (v : V) (D : PyData) : Prop where
  d : Dp K H v D
  s : D.showable = true
  n : D.hasDict = false
  p : D.depth ≤ 30
  l : D.shown.length ≤ 100000
  o : PyData.strOk D.shown = true
/-- a list of texts is told -/
abbrev TellS (Q : VK) (H : Hp) (ws : List Str) : Prop := ∀ l H', Same H H' → H l = none → H' l = some (.lst (ws.map V.str)) → Q (.ref l) H'
def wT (b : Bool) (z : Str) : List Str := if b = true then [z] else []
def words1 (bT : Bool) (sh : Str) : List Str := (["value"] : List Str) ++ wT bT ("thing " ++ sh)
def words2 (bT bI : Bool) (sh : Str) : List Str := words1 bT sh ++ wT bI ("item " ++ sh)
def words3 (bT bI bA : Bool) (sh : Str) : List Str := words2 bT bI sh ++ wT bA "alphabet"
def words4 (bT bI bA bM : Bool) (sh : Str) : List Str := words3 bT bI bA sh ++ wT bM "moves"
def words5 (bT bI bA bM bG : Bool) (sh : Str) : List Str := words4 bT bI bA bM sh ++ wT bG "good"
def wordsOf (bT bI bA bM bG bX : Bool) (sh : Str) : List Str := words5 bT bI bA bM bG sh ++ wT bX "text"
theorem wT_len (b : Bool) (z : Str) : (wT b z).length ≤ 1 := by cases b <;> simp [wT]
def sp_law_words (K : PySem.W.Frag) (r : Er) : Addr → Value → Option Addr → Sp := fun a cls d vs H Q _ => ∃ (E0 : Addr) (f : Str) (dd : Addr) (v : V) (D : PyData) (bT bI bA bM bG bX : Bool) (sh : Str), vs = [.ref a] ∧ cls = .ref E0 ∧ d = some dd ∧ ErF K r E0 bT bI bA bM bG bX ∧ H dd = some (.xd [(f, v)]) ∧ (bT = true → f = "thing") ∧ (bI = true → f = "at") ∧ (Shw K H v D ∧ sh = D.shown) ∧ TellS Q H (wordsOf bT bI bA bM bG bX sh)
theorem w_app {H : Hp} {L : Addr} {ws : List Str} {z : Str} : upd H L (.lst (ws.map V.str ++ [.str z])) L = some (.lst ((ws ++ [z]).map V.str)) := by rw [upd_same, List.map_append]; rfl
section
variable {P : Program} {w : World} {K : PySem.W.Frag} {mg : Str → Option Value} {base : Heap} {C : Addr} {r : Er}
set_option maxHeartbeats 4000000 in
theorem ok_law_words {f : Addr} {fd : FuncData} (F : C8.Def K mg "_law_words" s_law_words f fd) (T : Txt K mg C r) (b : Binds K fd ["error"] []) : CalEG P w K mg base 1 "_law_words" (sp_law_words K r) := by
  refine ⟨f, fd, ["error"], fnEG F.fn sc_law_words (fun _ _ _ vs H Q E h => ?_) (fun cdv A outer s H vs Q E p hr hG hf h => ?_), F.mgf, F.kp, b⟩
  · obtain ⟨_, _, _, _, _, _, _, _, _, _, _, _, rfl, _⟩ := h
    rfl
  · obtain ⟨E0, f, dd, v, D, bT, bI, bA, bM, bG, bX, sh, rfl, e1, e2, er, hd, hfT, hfI, hv, k⟩ := h
    refine ⟨_, (pss_cons (ps_set (i := 1) sc_law_words.nd rfl (by first | exact Or.inl rfl | exact Or.inr rfl) (pe_lst pa_nil))
        (pss_cons (ps_if (pt_val (pe_callB (call_isP (oe := p.2) (List.mem_cons_self ..) er.xc ⟨e1, e2⟩ hf) (by rfl) T.b_isinstance (by decide +kernel) (pa_cons (pv 0) (pa_cons (pe_bltn (v := .ty "ValueError") (u := .type "ValueError") (by rfl) T.b_ValueError (by decide +kernel) rfl) pa_nil)))) (pss_one (ps_expr (bmK K rfl (pe_bm PySem.F.plainAttrs_list PySem.F.slot_list_append PySem.F.type_list_append mt_append (pv 1) (pa_cons pe_str pa_nil))))) pss_nil)
        (C8.pss_cut (ps_if (pt_val (pe_callB (call_isP (oe := p.2) (List.mem_cons_self ..) er.xc ⟨e1, e2⟩ hf) (by rfl) T.b_isinstance (by decide +kernel) (pa_cons (pv 0) (pa_cons (pe_gc (v := .ref r.WrongThing) rfl ⟨_, T.mg_WrongThing, rfl⟩) pa_nil)))) (pss_one (ps_expr (bmK K rfl (pe_bm PySem.F.plainAttrs_list PySem.F.slot_list_append PySem.F.type_list_append mt_append (pv 1) (pa_cons (pe_op op_add_str pe_str (pe_callB (call_reprD K rfl hG (huH hr)) (by rfl) T.b_repr (by decide +kernel) (pa_cons (pe_xp (oe := p.2) (List.mem_cons_self ..) er.xf er.nT ⟨e1, e2⟩ hf (pv 0)) pa_nil))) pa_nil))))) pss_nil)
        (C8.pss_cut (ps_if (pt_val (pe_callB (call_isP (oe := p.2) (List.mem_cons_self ..) er.xc ⟨e1, e2⟩ hf) (by rfl) T.b_isinstance (by decide +kernel) (pa_cons (pv 0) (pa_cons (pe_gc (v := .ref r.WrongItem) rfl ⟨_, T.mg_WrongItem, rfl⟩) pa_nil)))) (pss_one (ps_expr (bmK K rfl (pe_bm PySem.F.plainAttrs_list PySem.F.slot_list_append PySem.F.type_list_append mt_append (pv 1) (pa_cons (pe_op op_add_str pe_str (pe_callB (call_reprD K rfl hG (huH hr)) (by rfl) T.b_repr (by decide +kernel) (pa_cons (pe_xp (oe := p.2) (List.mem_cons_self ..) er.xf er.nA ⟨e1, e2⟩ hf (pv 0)) pa_nil))) pa_nil))))) pss_nil)
        (C8.pss_cut (ps_if (pt_val (pe_callB (call_isP (oe := p.2) (List.mem_cons_self ..) er.xc ⟨e1, e2⟩ hf) (by rfl) T.b_isinstance (by decide +kernel) (pa_cons (pv 0) (pa_cons (pe_gc (v := .ref r.BadAlphabet) rfl ⟨_, T.mg_BadAlphabet, rfl⟩) pa_nil)))) (pss_one (ps_expr (bmK K rfl (pe_bm PySem.F.plainAttrs_list PySem.F.slot_list_append PySem.F.type_list_append mt_append (pv 1) (pa_cons pe_str pa_nil))))) pss_nil)
        (C8.pss_cut (ps_if (pt_val (pe_callB (call_isP (oe := p.2) (List.mem_cons_self ..) er.xc ⟨e1, e2⟩ hf) (by rfl) T.b_isinstance (by decide +kernel) (pa_cons (pv 0) (pa_cons (pe_gc (v := .ref r.BadMoves) rfl ⟨_, T.mg_BadMoves, rfl⟩) pa_nil)))) (pss_one (ps_expr (bmK K rfl (pe_bm PySem.F.plainAttrs_list PySem.F.slot_list_append PySem.F.type_list_append mt_append (pv 1) (pa_cons pe_str pa_nil))))) pss_nil)
        (C8.pss_cut (ps_if (pt_val (pe_callB (call_isP (oe := p.2) (List.mem_cons_self ..) er.xc ⟨e1, e2⟩ hf) (by rfl) T.b_isinstance (by decide +kernel) (pa_cons (pv 0) (pa_cons (pe_gc (v := .ref r.BadGood) rfl ⟨_, T.mg_BadGood, rfl⟩) pa_nil)))) (pss_one (ps_expr (bmK K rfl (pe_bm PySem.F.plainAttrs_list PySem.F.slot_list_append PySem.F.type_list_append mt_append (pv 1) (pa_cons pe_str pa_nil))))) pss_nil)
        (C8.pss_cut (ps_if (pt_val (pe_callB (call_isP (oe := p.2) (List.mem_cons_self ..) er.xc ⟨e1, e2⟩ hf) (by rfl) T.b_isinstance (by decide +kernel) (pa_cons (pv 0) (pa_cons (pe_gc (v := .ref r.BadText) rfl ⟨_, T.mg_BadText, rfl⟩) pa_nil)))) (pss_one (ps_expr (bmK K rfl (pe_bm PySem.F.plainAttrs_list PySem.F.slot_list_append PySem.F.type_list_append mt_append (pv 1) (pa_cons pe_str pa_nil))))) pss_nil)
        (pss_cons (ps_if (pt_val (pe_callB (call_isPT (oe := p.2) (List.mem_cons_self ..) er.xc ⟨e1, e2⟩ hf) (by rfl) T.b_isinstance (by decide +kernel) (pa_cons (pv 0) (pa_cons (pe_tup (pa_cons (pe_gc (v := .ref r.BadLetter) rfl ⟨_, T.mg_BadLetter, rfl⟩) (pa_cons (pe_gc (v := .ref r.BadLots) rfl ⟨_, T.mg_BadLots, rfl⟩) (pa_cons (pe_gc (v := .ref r.BadNumber) rfl ⟨_, T.mg_BadNumber, rfl⟩) (pa_cons (pe_gc (v := .ref r.BadTexts) rfl ⟨_, T.mg_BadTexts, rfl⟩) (pa_cons (pe_gc (v := .ref r.NoName) rfl ⟨_, T.mg_NoName, rfl⟩) (pa_cons (pe_gc (v := .ref r.TooMany) rfl ⟨_, T.mg_TooMany, rfl⟩) (pa_cons (pe_gc (v := .ref r.Unlike) rfl ⟨_, T.mg_Unlike, rfl⟩) pa_nil)))))))) pa_nil)))) (pss_one (ps_expr (bmK K rfl (pe_bm PySem.F.plainAttrs_list PySem.F.slot_list_append PySem.F.type_list_append mt_append (pv 1) (pa_cons pe_str pa_nil))))) pss_nil)
        (pss_one (ps_ret (pv 1)))))))))))), ?_⟩
    obtain ⟨hv, rfl⟩ := hv
    walk_at "go"
    refine ⟨szl (by show 0 ≤ 16777216; decide), fun L hL => ?_⟩
    walk_at "go"
    have hdL : dd ≠ L := ne_of_none hd hL
    have s0 : Same H (upd H L (.lst [])) := same_laid hL
    have hL1 : (upd H L (.lst [])) L = some (.lst []) := upd_same
    have hd1 := s0 _ _ hd
    generalize upd H L (.lst []) = H1 at *
    refine ⟨_, .type "ValueError", true, _, rfl, hd1, fun u h => h, er.kv, ?_⟩
    walk_at "go"
    refine i_append hL1 (by show 0 < 16777216; decide) ?_
    walk_at "go"
    have s2 : Same H (upd H1 L (.lst ([] ++ [.str "value"]))) := Same.put s0 hL
    have hL2 : (upd H1 L (.lst ([] ++ [.str "value"]))) L = some (.lst ((["value"] : List Str).map V.str)) := upd_same
    generalize upd H1 L (.lst ([] ++ [.str "value"])) = H2 at *
    refine i_cut (fun σ H4 => ∃ x1 : Nat, σ = [some (.ref p.1), some (.ref L)] ∧ Same H H4 ∧ H4 L = some (.lst ((words1 bT D.shown).map V.str)) ∧ x1 = 0) ?_ (fun σ H4 hq => ?_)
    · walk_at "go"
      refine ⟨_, .ref r.WrongThing, bT, _, rfl, s2 _ _ hd, fun u h => h, er.kT, ?_⟩
      walk_at "go"
      have hlen : (["value"] : List Str).length ≤ 100 := by
        have := wT_len bT ("thing " ++ D.shown)
        have := wT_len bI ("item " ++ D.shown)
        have := wT_len bA "alphabet"
        have := wT_len bM "moves"
        have := wT_len bG "good"
        simp only [words5, words4, words3, words2, words1, List.length_append, List.length_cons, List.length_nil]
        omega
      refine iteB (fun hb => ?_) (fun hb => ?_)
      · walk_at "go"
        have hf0 := hfT hb
        subst hf0
        refine ⟨rfl, _, v, s2 _ _ hd, rfl, ?_⟩
        walk_at "go"
        refine ⟨v, D, rfl, dp_same s2 _ _ hv.d, hv.s, hv.n, hv.p, by have := hv.l; rw [sizeLine_eq]; omega, ?_⟩
        walk_at "go"
        refine ⟨_, _, rfl, rfl, ?_, ?_⟩
        · rw [sizeLine_eq]
          have : ("thing " : Str).length = 6 := by decide +kernel
          have := hv.l
          omega
        walk_at "go"
        refine i_append hL2 (szlt (by rw [List.length_map]; omega)) ?_
        walk_at "go"
        exact ⟨0, rfl, Same.put s2 hL, by rw [w_app, show (words1 bT D.shown) = (["value"] : List Str) ++ ["thing " ++ D.shown] by unfold words1 wT; rw [if_pos hb]], rfl⟩
      · walk_at "go"
        exact ⟨0, rfl, s2, by rw [hL2, show (words1 bT D.shown) = (["value"] : List Str) by unfold words1 wT; rw [hb, if_neg Bool.false_ne_true, List.append_nil]], rfl⟩
    obtain ⟨_, rfl, s2, hL2, _⟩ := hq
    walk_at "go"
    refine i_cut (fun σ H4 => ∃ x1 : Nat, σ = [some (.ref p.1), some (.ref L)] ∧ Same H H4 ∧ H4 L = some (.lst ((words2 bT bI D.shown).map V.str)) ∧ x1 = 0) ?_ (fun σ H4 hq => ?_)
    · walk_at "go"
      refine ⟨_, .ref r.WrongItem, bI, _, rfl, s2 _ _ hd, fun u h => h, er.kI, ?_⟩
      walk_at "go"
      have hlen : (words1 bT D.shown).length ≤ 100 := by
        have := wT_len bT ("thing " ++ D.shown)
        have := wT_len bI ("item " ++ D.shown)
        have := wT_len bA "alphabet"
        have := wT_len bM "moves"
        have := wT_len bG "good"
        simp only [words5, words4, words3, words2, words1, List.length_append, List.length_cons, List.length_nil]
        omega
      refine iteB (fun hb => ?_) (fun hb => ?_)
      · walk_at "go"
        have hf0 := hfI hb
        subst hf0
        refine ⟨rfl, _, v, s2 _ _ hd, rfl, ?_⟩
        walk_at "go"
        refine ⟨v, D, rfl, dp_same s2 _ _ hv.d, hv.s, hv.n, hv.p, by have := hv.l; rw [sizeLine_eq]; omega, ?_⟩
        walk_at "go"
        refine ⟨_, _, rfl, rfl, ?_, ?_⟩
        · rw [sizeLine_eq]
          have : ("item " : Str).length = 5 := by decide +kernel
          have := hv.l
          omega
        walk_at "go"
        refine i_append hL2 (szlt (by rw [List.length_map]; omega)) ?_
        walk_at "go"
        exact ⟨0, rfl, Same.put s2 hL, by rw [w_app, show (words2 bT bI D.shown) = (words1 bT D.shown) ++ ["item " ++ D.shown] by unfold words2 wT; rw [if_pos hb]], rfl⟩
      · walk_at "go"
        exact ⟨0, rfl, s2, by rw [hL2, show (words2 bT bI D.shown) = (words1 bT D.shown) by unfold words2 wT; rw [hb, if_neg Bool.false_ne_true, List.append_nil]], rfl⟩
    obtain ⟨_, rfl, s2, hL2, _⟩ := hq
    walk_at "go"
    refine i_cut (fun σ H4 => ∃ x1 : Nat, σ = [some (.ref p.1), some (.ref L)] ∧ Same H H4 ∧ H4 L = some (.lst ((words3 bT bI bA D.shown).map V.str)) ∧ x1 = 0) ?_ (fun σ H4 hq => ?_)
    · walk_at "go"
      refine ⟨_, .ref r.BadAlphabet, bA, _, rfl, s2 _ _ hd, fun u h => h, er.kA, ?_⟩
      walk_at "go"
      have hlen : (words2 bT bI D.shown).length ≤ 100 := by
        have := wT_len bT ("thing " ++ D.shown)
        have := wT_len bI ("item " ++ D.shown)
        have := wT_len bA "alphabet"
        have := wT_len bM "moves"
        have := wT_len bG "good"
        simp only [words5, words4, words3, words2, words1, List.length_append, List.length_cons, List.length_nil]
        omega
      refine iteB (fun hb => ?_) (fun hb => ?_)
      · walk_at "go"
        refine i_append hL2 (szlt (by rw [List.length_map]; omega)) ?_
        walk_at "go"
        exact ⟨0, rfl, Same.put s2 hL, by rw [w_app, show (words3 bT bI bA D.shown) = (words2 bT bI D.shown) ++ ([("alphabet" : Str)] : List Str) by unfold words3 wT; rw [if_pos hb]], rfl⟩
      · walk_at "go"
        exact ⟨0, rfl, s2, by rw [hL2, show (words3 bT bI bA D.shown) = (words2 bT bI D.shown) by unfold words3 wT; rw [hb, if_neg Bool.false_ne_true, List.append_nil]], rfl⟩
    obtain ⟨_, rfl, s2, hL2, _⟩ := hq
    walk_at "go"
    refine i_cut (fun σ H4 => ∃ x1 : Nat, σ = [some (.ref p.1), some (.ref L)] ∧ Same H H4 ∧ H4 L = some (.lst ((words4 bT bI bA bM D.shown).map V.str)) ∧ x1 = 0) ?_ (fun σ H4 hq => ?_)
    · walk_at "go"
      refine ⟨_, .ref r.BadMoves, bM, _, rfl, s2 _ _ hd, fun u h => h, er.kM, ?_⟩
      walk_at "go"
      have hlen : (words3 bT bI bA D.shown).length ≤ 100 := by
        have := wT_len bT ("thing " ++ D.shown)
        have := wT_len bI ("item " ++ D.shown)
        have := wT_len bA "alphabet"
        have := wT_len bM "moves"
        have := wT_len bG "good"
        simp only [words5, words4, words3, words2, words1, List.length_append, List.length_cons, List.length_nil]
        omega
      refine iteB (fun hb => ?_) (fun hb => ?_)
      · walk_at "go"
        refine i_append hL2 (szlt (by rw [List.length_map]; omega)) ?_
        walk_at "go"
        exact ⟨0, rfl, Same.put s2 hL, by rw [w_app, show (words4 bT bI bA bM D.shown) = (words3 bT bI bA D.shown) ++ ([("moves" : Str)] : List Str) by unfold words4 wT; rw [if_pos hb]], rfl⟩
      · walk_at "go"
        exact ⟨0, rfl, s2, by rw [hL2, show (words4 bT bI bA bM D.shown) = (words3 bT bI bA D.shown) by unfold words4 wT; rw [hb, if_neg Bool.false_ne_true, List.append_nil]], rfl⟩
    obtain ⟨_, rfl, s2, hL2, _⟩ := hq
    walk_at "go"
    refine i_cut (fun σ H4 => ∃ x1 : Nat, σ = [some (.ref p.1), some (.ref L)] ∧ Same H H4 ∧ H4 L = some (.lst ((words5 bT bI bA bM bG D.shown).map V.str)) ∧ x1 = 0) ?_ (fun σ H4 hq => ?_)
    · walk_at "go"
      refine ⟨_, .ref r.BadGood, bG, _, rfl, s2 _ _ hd, fun u h => h, er.kG, ?_⟩
      walk_at "go"
      have hlen : (words4 bT bI bA bM D.shown).length ≤ 100 := by
        have := wT_len bT ("thing " ++ D.shown)
        have := wT_len bI ("item " ++ D.shown)
        have := wT_len bA "alphabet"
        have := wT_len bM "moves"
        have := wT_len bG "good"
        simp only [words5, words4, words3, words2, words1, List.length_append, List.length_cons, List.length_nil]
        omega
      refine iteB (fun hb => ?_) (fun hb => ?_)
      · walk_at "go"
        refine i_append hL2 (szlt (by rw [List.length_map]; omega)) ?_
        walk_at "go"
        exact ⟨0, rfl, Same.put s2 hL, by rw [w_app, show (words5 bT bI bA bM bG D.shown) = (words4 bT bI bA bM D.shown) ++ ([("good" : Str)] : List Str) by unfold words5 wT; rw [if_pos hb]], rfl⟩
      · walk_at "go"
        exact ⟨0, rfl, s2, by rw [hL2, show (words5 bT bI bA bM bG D.shown) = (words4 bT bI bA bM D.shown) by unfold words5 wT; rw [hb, if_neg Bool.false_ne_true, List.append_nil]], rfl⟩
    obtain ⟨_, rfl, s2, hL2, _⟩ := hq
    walk_at "go"
    refine i_cut (fun σ H4 => ∃ x1 : Nat, σ = [some (.ref p.1), some (.ref L)] ∧ Same H H4 ∧ H4 L = some (.lst ((wordsOf bT bI bA bM bG bX D.shown).map V.str)) ∧ x1 = 0) ?_ (fun σ H4 hq => ?_)
    · walk_at "go"
      refine ⟨_, .ref r.BadText, bX, _, rfl, s2 _ _ hd, fun u h => h, er.kX, ?_⟩
      walk_at "go"
      have hlen : (words5 bT bI bA bM bG D.shown).length ≤ 100 := by
        have := wT_len bT ("thing " ++ D.shown)
        have := wT_len bI ("item " ++ D.shown)
        have := wT_len bA "alphabet"
        have := wT_len bM "moves"
        have := wT_len bG "good"
        simp only [words5, words4, words3, words2, words1, List.length_append, List.length_cons, List.length_nil]
        omega
      refine iteB (fun hb => ?_) (fun hb => ?_)
      · walk_at "go"
        refine i_append hL2 (szlt (by rw [List.length_map]; omega)) ?_
        walk_at "go"
        exact ⟨0, rfl, Same.put s2 hL, by rw [w_app, show (wordsOf bT bI bA bM bG bX D.shown) = (words5 bT bI bA bM bG D.shown) ++ ([("text" : Str)] : List Str) by unfold wordsOf wT; rw [if_pos hb]], rfl⟩
      · walk_at "go"
        exact ⟨0, rfl, s2, by rw [hL2, show (wordsOf bT bI bA bM bG bX D.shown) = (words5 bT bI bA bM bG D.shown) by unfold wordsOf wT; rw [hb, if_neg Bool.false_ne_true, List.append_nil]], rfl⟩
    obtain ⟨_, rfl, s2, hL2, _⟩ := hq
    walk_at "go"
    refine ⟨szl (by show 7 ≤ 16777216; decide), fun TT hTT => ?_⟩
    have sT : Same _ (upd _ TT (.tup [.ref r.BadLetter, .ref r.BadLots, .ref r.BadNumber, .ref r.BadTexts, .ref r.NoName, .ref r.TooMany, .ref r.Unlike])) := same_laid hTT
    walk_at "go"
    refine ⟨TT, [r.BadLetter, r.BadLots, r.BadNumber, r.BadTexts, r.NoName, r.TooMany, r.Unlike], false, _, rfl, upd_same, sT _ _ (s2 _ _ hd), er.ko, ?_⟩
    walk_at "go"
    exact k L _ (s2.trans sT) hL (sT _ _ hL2)
end
abbrev s_law_making : Stmt := top 49
theorem sc_law_making : FnScope ["alphabet", "moves", "good", "error"] ["alphabet", "moves", "good"] (fnScope s_law_making) := ⟨rfl, rfl, rfl, by decide +kernel, rfl, by decide +kernel, by decide +kernel⟩
def aW (z : Str) : List Str := ["value", "thing " ++ z, "alphabet"]
def iW (i : Int) (w : Str) : List Str := ["value", "item " ++ (PyData.int i).shown, w]
theorem flds_room (al : List Nat) (pm pg : Addr) : (flds al pm pg).lookup ("room" : Str) = none := by
  unfold flds
  rw [lookup_putF, if_neg (by decide +kernel), lookup_putF, if_neg (by decide +kernel), lookup_putF, if_neg (by decide +kernel)]
  rfl
theorem mk_initN {C : Addr} {r : Er} {H : Hp} {q : Hp → Prop} {E : XK} {xa xm xg : V} {x dx : Addr} (k : MkW C r H (fun _ H2 => q H2) E xa xm xg) (hx : H x = none) (hdx : H dx = none) (hne : dx ≠ x) :
    sp_Readerd_initd C r [.ref x, xa, xm, xg] (upd (upd H dx (.own x)) x (.ins C dx [])) (fun v H2 => v = .non ∧ q H2) E := mk_init k hx hdx hne
/-- how a making comes out -/
def MkO (K : PySem.W.Frag) (H : Hp) (Q : VK) (xa xm xg : V) : Prop :=
  (∃ tn D, Thg H xa tn ∧ AlStr xa ∧ alB xa = false ∧ Shw K H xa D ∧ TellS Q H (aW D.shown)) ∨ ∃ al, xa = .str (SX.S al) ∧ AlOk al ∧
    ((∃ i : Int, MvBad H al.length xm i ∧ TellS Q H (iW i "moves")) ∨ ∃ (Z : AS) (m : Addr) (rs : Rws), xm = .ref m ∧ TO Z H ∧ Rows Z H m rs ∧ WF al.length rs ∧
      ((∃ i : Int, GdBad H rs.length xg i ∧ TellS Q H (iW i "good")) ∨ ∃ (g : Addr) (gd : List Nat), xg = .ref g ∧ Ints Z H g gd ∧ GOK rs.length gd ∧ TellS Q H []))
theorem Shw.same {K : PySem.W.Frag} {H H' : Hp} {v : V} {D : PyData} (h : Shw K H v D) (s : Same H H') : Shw K H' v D := ⟨dp_same s _ _ h.d, h.s, h.n, h.p, h.l, h.o⟩
theorem strOk_of (s : String) : PyData.strOk (Str.ofString s) = true := by
  rw [Str.ofString_eq_toList]
  unfold PyData.strOk
  simp only [List.all_toArray, List.all_map, List.all_eq_true]
  intro c _
  have h : c.toNat < 0xd800 ∨ (0xdfff < c.toNat ∧ c.toNat < 0x110000) := c.valid
  show decide (c.toNat < 0x110000) = true
  rw [decide_eq_true_iff]
  omega
theorem strOk_app {a b : Str} (ha : PyData.strOk a = true) (hb : PyData.strOk b = true) : PyData.strOk (a ++ b) = true := by
  show (a.cps ++ b.cps).all _ = true
  rw [Array.all_append]
  exact Bool.and_eq_true_iff.mpr ⟨ha, hb⟩
theorem shw_int {K : PySem.W.Frag} {H : Hp} {i : Int} (h : -1 ≤ i ∧ i ≤ 1000000) : Shw K H (.int i) (.int i) := by
  have hl : i.natAbs.log2 < 1920 := by
    rcases fmt_int h with ⟨y, e, _⟩ | ⟨j, e, hj⟩
    · cases e
    · cases e
      exact hj
  refine ⟨.int i, decide_eq_true hl, rfl, by show 0 ≤ 30; decide, ?_, strOk_of _⟩
  have := PyProof.Rows.int_text_len_1921 hl
  show (Str.ofString (toString i)).length ≤ 100000
  omega
theorem mvBad_le {H : Hp} {m : Nat} {x : V} {i : Int} (h : MvBad H m x i) : -1 ≤ i ∧ i ≤ 1000000 := by
  cases h with
  | kind _ _ => decide
  | size _ _ _ => decide
  | row h l b g e n =>
    have := (List.getElem?_eq_some_iff.mp e).1
    exact ⟨by omega, by omega⟩
theorem gdBad_le {H : Hp} {n : Nat} {x : V} {i : Int} (h : GdBad H n x i) : -1 ≤ i ∧ i ≤ 1000000 := by
  cases h with
  | kind _ _ => decide
  | item h l g b =>
    obtain ⟨y, e, _⟩ := b
    have := (List.getElem?_eq_some_iff.mp e).1
    exact ⟨by omega, by omega⟩
def sp_law_making (K : PySem.W.Frag) (C : Addr) (r : Er) : Sp := fun vs H Q _ => ∃ (xa xm xg : V), vs = [xa, xm, xg] ∧ MkO K H Q xa xm xg
section
variable {P : Program} {w : World} {K : PySem.W.Frag} {mg : Str → Option Value} {base : Heap} {C : Addr} {r : Er}
set_option maxHeartbeats 4000000 in
theorem ok_law_making {f : Addr} {fd : FuncData} (F : C8.Def K mg "_law_making" s_law_making f fd) (T : Txt K mg C r) (b : Binds K fd ["alphabet", "moves", "good"] []) (c_law_words : CalEG P w K mg base 1 "_law_words" (sp_law_words K r)) (m_Reader : MakX P w K mg base 5 "Reader" C (sp_Readerd_initd C r)) : CalG P w K mg base 7 "_law_making" (sp_law_making K C r) := by
  refine ⟨f, fd, ["alphabet", "moves", "good"], fnG0 F.fn sc_law_making (fun vs H Q E h => ?_) (fun cdv A outer s H vs Q E hr hG h => ?_), F.mgf, F.kp, b⟩
  · obtain ⟨_, _, _, rfl, _⟩ := h
    rfl
  · obtain ⟨xa, xm, xg, rfl, k⟩ := h
    refine ⟨_, (pss_cons (ps_try_as (i := 3) rfl rfl sc_law_making.nd rfl rfl ⟨rfl, by decide, .inl T.mg_LotsError⟩ takes0 (fun W pn xe tk _ => (pss_one (ps_expr (pe_mkX m_Reader hr (by decide) tk rfl (pa_cons (pv 0) (pa_cons (pv 1) (pa_cons (pv 2) pa_nil)))))))
        (fun a oe cls d pn hz hf => (pss_one (ps_ret (pe_cEG c_law_words (List.mem_cons_self ..) hz hf (roomS hr) (by decide) hG rfl (pa_cons (pv 3) pa_nil))))))
        (pss_one (ps_ret (pe_lst pa_nil)))), ?_⟩
    walk_at "go"
    intro y dy hy hdy hne
    refine mk_initN ?_ hy hdy hne
    rcases k with ⟨tn, D, ty, hz, hb, hsh, k⟩ | ⟨al, rfl, ha, k⟩
    · refine .inl ⟨tn, ty, hz, hb, fun d H1 s1 hd he => ?_⟩
      refine ⟨true, T.eA.ex, fun _ a _ => ?_, fun z => (by cases z)⟩
      walk_at "go"
      refine ⟨r.BadAlphabet, "thing", d, xa, D, true, false, true, false, false, false, _, rfl, rfl, rfl, T.eA, he, fun _ => rfl, fun z => (by cases z), ⟨hsh.same s1, rfl⟩, fun l H2 s2 hl0 hl => ?_⟩
      walk_at "go"
      exact k l H2 (s1.trans s2) (same_free s1 hl0) hl
    refine .inr ⟨al, rfl, ha, ?_⟩
    rcases k with ⟨i, hi, k⟩ | ⟨Z, m, rs, rfl, hT, hm, hw, k⟩
    · refine .inl ⟨i, hi, fun d H1 s1 hd he => ?_⟩
      refine ⟨true, T.eM.ex, fun _ a _ => ?_, fun z => (by cases z)⟩
      walk_at "go"
      refine ⟨r.BadMoves, "at", d, .int i, .int i, false, true, false, true, false, false, _, rfl, rfl, rfl, T.eM, he, fun z => (by cases z), fun _ => rfl, ⟨shw_int (mvBad_le hi), rfl⟩, fun l H2 s2 hl0 hl => ?_⟩
      walk_at "go"
      exact k l H2 (s1.trans s2) (same_free s1 hl0) hl
    refine .inr ⟨Z, m, rs, rfl, hT, hm, hw, ?_⟩
    rcases k with ⟨i, hi, k⟩ | ⟨g, gd, rfl, hg, hk, k⟩
    · refine .inl ⟨i, hi, fun d H1 s1 hd he => ?_⟩
      refine ⟨true, T.eG.ex, fun _ a _ => ?_, fun z => (by cases z)⟩
      walk_at "go"
      refine ⟨r.BadGood, "at", d, .int i, .int i, false, true, false, false, true, false, _, rfl, rfl, rfl, T.eG, he, fun z => (by cases z), fun _ => rfl, ⟨shw_int (gdBad_le hi), rfl⟩, fun l H2 s2 hl0 hl => ?_⟩
      walk_at "go"
      exact k l H2 (s1.trans s2) (same_free s1 hl0) hl
    refine .inr ⟨g, gd, rfl, hg, hk, fun p H1 s1 hp hr => ?_⟩
    walk_at "go"
    refine ⟨szl (by show 0 ≤ 16777216; decide), fun L hL => ?_⟩
    exact k L _ (s1.trans (same_laid hL)) (same_free s1 hL) upd_same
end
abbrev s_law_rooming : Stmt := top 50
theorem sc_law_rooming : FnScope ["reader", "text", "error"] ["reader", "text"] (fnScope s_law_rooming) := ⟨rfl, rfl, rfl, by decide +kernel, rfl, by decide +kernel, by decide +kernel⟩
def sp_law_rooming (K : PySem.W.Frag) (C : Addr) (r : Er) : Sp := fun vs H Q _ => ∃ (Z : AS) (p : Addr) (al : List Nat) (rs : Rws) (gd : List Nat) (x : V) (tn : String) (i : Int), vs = [.ref p, x] ∧ Rd C Z H p al rs gd ∧ AlOk al ∧ WF al.length rs ∧ Thg H x tn ∧ AlStr x ∧ faultV al 40 x = some i ∧ TellS Q H (iW i "text")
section
variable {P : Program} {w : World} {K : PySem.W.Frag} {mg : Str → Option Value} {base : Heap} {C : Addr} {r : Er}
set_option maxHeartbeats 4000000 in
theorem ok_law_rooming {f : Addr} {fd : FuncData} (F : C8.Def K mg "_law_rooming" s_law_rooming f fd) (T : Txt K mg C r) (b : Binds K fd ["reader", "text"] []) (c_law_words : CalEG P w K mg base 1 "_law_words" (sp_law_words K r)) (x_room : MetX P w K mg base 5 C "room" (sp_Reader_room C r)) : CalG P w K mg base 7 "_law_rooming" (sp_law_rooming K C r) := by
  refine ⟨f, fd, ["reader", "text"], fnG0 F.fn sc_law_rooming (fun vs H Q E h => ?_) (fun cdv A outer s H vs Q E hr hG h => ?_), F.mgf, F.kp, b⟩
  · obtain ⟨_, _, _, _, _, _, _, _, rfl, _⟩ := h
    rfl
  · obtain ⟨Z, p, al, rs, gd, x, tn, i, rfl, hp, ha, hw, ty, hz, hf, k⟩ := h
    refine ⟨_, (pss_one (ps_try_as (i := 2) rfl rfl sc_law_rooming.nd rfl rfl ⟨rfl, by decide, .inl T.mg_LotsError⟩ takes0 (fun W pn xe tk _ => (pss_one (ps_ret (pe_lst (pa_cons (pe_mtX x_room hr (by decide) tk (pv 0) (pa_cons (pv 1) pa_nil)) pa_nil)))))
        (fun a oe cls d pn hz hf => (pss_one (ps_ret (pe_cEG c_law_words (List.mem_cons_self ..) hz hf (roomS hr) (by decide) hG rfl (pa_cons (pv 2) pa_nil))))))), ?_⟩
    walk_at "go"
    obtain ⟨hpZ, dx, pm, pg, hp1, hp2, hp3⟩ := id hp
    refine ⟨p, dx, _, rfl, hp1, flds_room .., ?_⟩
    walk_at "go"
    refine ⟨Z, p, al, rs, gd, x, tn, rfl, hp, ha, hw, ty, hz, fun z w e hzw hl => ?_, fun j hj d H1 s1 hd he => ?_⟩
    · rw [e, word_fault hzw hl] at hf
      cases hf
    rw [hf] at hj
    cases hj
    refine ⟨true, T.eX.ex, fun _ a _ => ?_, fun z => (by cases z)⟩
    walk_at "go"
    refine ⟨r.BadText, "at", d, .int i, .int i, false, true, false, false, false, true, _, rfl, rfl, rfl, T.eX, he, fun z => (by cases z), fun _ => rfl, ⟨shw_int (faultV_le hf), rfl⟩, fun l H2 s2 hl0 hl => ?_⟩
    walk_at "go"
    exact k l H2 (s1.trans s2) (same_free s1 hl0) hl
end
abbrev s_law_finding : Stmt := top 51
theorem sc_law_finding : FnScope ["reader", "text", "error"] ["reader", "text"] (fnScope s_law_finding) := ⟨rfl, rfl, rfl, by decide +kernel, rfl, by decide +kernel, by decide +kernel⟩
def sp_law_finding (K : PySem.W.Frag) (C : Addr) (r : Er) : Sp := fun vs H Q _ => ∃ (Z : AS) (p : Addr) (al : List Nat) (rs : Rws) (gd : List Nat) (x : V) (tn : String) (i : Int), vs = [.ref p, x] ∧ Rd C Z H p al rs gd ∧ AlOk al ∧ WF al.length rs ∧ Thg H x tn ∧ AlStr x ∧ faultV al 40 x = some i ∧ TellS Q H (iW i "text")
section
variable {P : Program} {w : World} {K : PySem.W.Frag} {mg : Str → Option Value} {base : Heap} {C : Addr} {r : Er}
set_option maxHeartbeats 4000000 in
theorem ok_law_finding {f : Addr} {fd : FuncData} (F : C8.Def K mg "_law_finding" s_law_finding f fd) (T : Txt K mg C r) (b : Binds K fd ["reader", "text"] []) (c_law_words : CalEG P w K mg base 1 "_law_words" (sp_law_words K r)) (x_in : InX P w K mg base 5 C (sp_Readerd_containsd C r)) : CalG P w K mg base 7 "_law_finding" (sp_law_finding K C r) := by
  refine ⟨f, fd, ["reader", "text"], fnG0 F.fn sc_law_finding (fun vs H Q E h => ?_) (fun cdv A outer s H vs Q E hr hG h => ?_), F.mgf, F.kp, b⟩
  · obtain ⟨_, _, _, _, _, _, _, _, rfl, _⟩ := h
    rfl
  · obtain ⟨Z, p, al, rs, gd, x, tn, i, rfl, hp, ha, hw, ty, hz, hf, k⟩ := h
    refine ⟨_, (pss_one (ps_try_as (i := 2) rfl rfl sc_law_finding.nd rfl rfl ⟨rfl, by decide, .inl T.mg_LotsError⟩ takes0 (fun W pn xe tk _ => (pss_one (ps_ret (pe_lst (pa_cons (pe_inX x_in hr (by decide) tk (pv 1) (pv 0)) pa_nil)))))
        (fun a oe cls d pn hz hf => (pss_one (ps_ret (pe_cEG c_law_words (List.mem_cons_self ..) hz hf (roomS hr) (by decide) hG rfl (pa_cons (pv 2) pa_nil))))))), ?_⟩
    walk_at "go"
    obtain ⟨hpZ, dx, pm, pg, hp1, hp2, hp3⟩ := id hp
    refine ⟨p, dx, _, rfl, hp1, ?_⟩
    refine ⟨Z, p, al, rs, gd, x, tn, rfl, hp, ha, hw, ty, hz, fun z w e hzw hl => ?_, fun j hj d H1 s1 hd he => ?_⟩
    · rw [e, word_fault hzw hl] at hf
      cases hf
    rw [hf] at hj
    cases hj
    refine ⟨true, T.eX.ex, fun _ a _ => ?_, fun z => (by cases z)⟩
    walk_at "go"
    refine ⟨r.BadText, "at", d, .int i, .int i, false, true, false, false, false, true, _, rfl, rfl, rfl, T.eX, he, fun z => (by cases z), fun _ => rfl, ⟨shw_int (faultV_le hf), rfl⟩, fun l H2 s2 hl0 hl => ?_⟩
    walk_at "go"
    exact k l H2 (s1.trans s2) (same_free s1 hl0) hl
end
abbrev s_law_filling : Stmt := top 52
theorem sc_law_filling : FnScope ["alphabet", "told", "turn", "error"] ["alphabet"] (fnScope s_law_filling) := ⟨rfl, rfl, rfl, by decide +kernel, rfl, by decide +kernel, by decide +kernel⟩
/-- such a list of texts -/
abbrev Tells (H : Hp) (a : Addr) (ws : List Str) : Prop := H a = some (.lst (ws.map V.str))
def sp_law_filling (K : PySem.W.Frag) (C : Addr) (r : Er) : Sp := fun vs H Q _ => ∃ (x : V) (tn : String) (D : PyData), vs = [x] ∧ Thg H x tn ∧ AlStr x ∧ alB x = false ∧ Shw K H x D ∧ ∀ l a b H', Same H H' → H' l = some (.lst [.ref a, .ref b]) → Tells H' a (aW D.shown) → Tells H' b (aW D.shown) → Q (.ref l) H'
section
variable {P : Program} {w : World} {K : PySem.W.Frag} {mg : Str → Option Value} {base : Heap} {C : Addr} {r : Er}
set_option maxHeartbeats 4000000 in
theorem ok_law_filling {f : Addr} {fd : FuncData} (F : C8.Def K mg "_law_filling" s_law_filling f fd) (T : Txt K mg C r) (b : Binds K fd ["alphabet"] []) (c_law_words : CalEG P w K mg base 1 "_law_words" (sp_law_words K r)) (s_full : StX P w K mg base 7 "Reader" C "full" (sp_Reader_full C r)) (s_bare : StX P w K mg base 7 "Reader" C "bare" (sp_Reader_bare C r)) (o_len : OwnCal P w K mg base 1 C "__len__" (sp_Readerd_lend C)) : CalG P w K mg base 9 "_law_filling" (sp_law_filling K C r) := by
  refine ⟨f, fd, ["alphabet"], fnG0 F.fn sc_law_filling (fun vs H Q E h => ?_) (fun cdv A outer s H vs Q E hr hG h => ?_), F.mgf, F.kp, b⟩
  · obtain ⟨_, _, _, rfl, _⟩ := h
    rfl
  · obtain ⟨x, tn, D, rfl, ty, hz, hb, hsh, k⟩ := h
    refine ⟨_, (pss_cons (ps_set (i := 1) sc_law_filling.nd rfl (by first | exact Or.inl rfl | exact Or.inr rfl) (pe_lst pa_nil))
        (pss_cons (ps_for PassesOwn.never rfl (pi_range1 (by rfl) T.b_range (pa_cons pe_int pa_nil)) (pg_name (i := 2) sc_law_filling.nd rfl (by first | exact Or.inl rfl | exact Or.inr rfl))
        (pss_one (ps_try_as (i := 3) rfl rfl sc_law_filling.nd rfl rfl ⟨rfl, by decide, .inl T.mg_LotsError⟩ takes0 (fun W pn xe tk _ => (pss_one (ps_expr (bmK K rfl (pe_bm PySem.F.plainAttrs_list PySem.F.slot_list_append PySem.F.type_list_append mt_append (pv 1) (pa_cons (pe_lst (pa_cons (pe_callB (ownLen o_len hr (by decide)) (by rfl) T.b_len (by decide +kernel) (pa_cons (pe_ifExp (pt_cmpR op_eq (pv 2) pe_int (nomark _)) (pe_stX s_full hr (by decide) tk rfl (pa_cons (pv 0) pa_nil)) (pe_stX s_bare hr (by decide) tk rfl (pa_cons (pv 0) pa_nil))) pa_nil)) pa_nil)) pa_nil))))))
        (fun a oe cls d pn hz hf => (pss_one (ps_expr (bmK K rfl (pe_bm PySem.F.plainAttrs_list PySem.F.slot_list_append PySem.F.type_list_append mt_append (pv 1) (pa_cons (pe_cEG c_law_words (List.mem_cons_self ..) hz hf (roomS hr) (by decide) hG rfl (pa_cons (pv 3) pa_nil)) pa_nil)))))))))
        (pss_one (ps_ret (pv 1))))), ?_⟩
    walk_at "go"
    refine ⟨by decide, fun T0 hT0 => ?_⟩
    walk_at "go"
    refine ⟨by decide, by decide, ?_⟩
    refine rng0_for (n := 2) (fun i σ H1 => ∃ (x3 x4 : Option V) (ls : List Addr), σ = [some x, some (.ref T0), x3, x4] ∧ Same H H1 ∧ H1 T0 = some (.lst (ls.map V.ref)) ∧ ls.length = i ∧ ∀ a ∈ ls, Tells H1 a (aW D.shown) ∧ a ≠ T0)
      ⟨none, none, [], rfl, same_laid hT0, upd_same, rfl, fun a h => by simp at h⟩ (fun i σ H1 hi hq => ?_) (fun σ H1 hq => ?_)
    · obtain ⟨x3, x4, ls, rfl, s1, hT1, hll, hls⟩ := hq
      walk_at "go"
      refine iteD (fun hx => ?one) (fun hx => ?two)
      case one | two =>
        walk_at "go"
        refine ⟨x, tn, rfl, ty.same s1, hz, fun al e ha => ?_, fun _ d H2 s2 hd hx => ?_⟩
        · rw [e, ha.alB] at hb
          cases hb
        have hT2 := s2 _ _ hT1
        refine ⟨true, T.eA.ex, fun _ a _ => ?_, fun z => (by cases z)⟩
        walk_at "go"
        refine ⟨r.BadAlphabet, "thing", d, x, D, true, false, true, false, false, false, _, rfl, rfl, rfl, T.eA, hx, fun _ => rfl, fun z => (by cases z), ⟨hsh.same (s1.trans s2), rfl⟩, fun l H3 s3 hl0 hl1 => ?_⟩
        have hT3 := s3 _ _ hT2
        walk_at "go"
        refine i_append hT3 (by rw [List.length_map]; omega) ?_
        walk_at "go"
        have hlT : l ≠ T0 := (ne_of_none hT2 hl0).symm
        refine ⟨_, _, ls ++ [l], rfl, Same.put ((s1.trans s2).trans s3) hT0, by rw [upd_same, List.map_append]; rfl, by rw [List.length_append, hll]; rfl, fun b hb => ?_⟩
        rcases List.mem_append.mp hb with hb | hb
        · obtain ⟨h1, h2⟩ := hls b hb
          exact ⟨by unfold Tells; rw [upd_ne h2]; exact s3 _ _ (s2 _ _ h1), h2⟩
        · rw [List.mem_singleton.mp hb]
          exact ⟨by unfold Tells; rw [upd_ne hlT]; exact hl1, hlT⟩
    · obtain ⟨x3, x4, ls, rfl, s1, hT1, hll, hls⟩ := hq
      walk_at "go"
      match ls, hll with
      | [a, b], _ => exact k T0 a b H1 s1 hT1 (hls a (by simp)).1 (hls b (by simp)).1
end
abbrev s_law_letters : Stmt := top 53
theorem sc_law_letters : FnScope ["source", "alphabet", "size", "k"] ["source", "alphabet", "size"] (fnScope s_law_letters) := ⟨rfl, rfl, rfl, by decide +kernel, rfl, by decide +kernel, by decide +kernel⟩
def sp_law_letters : Sp := fun vs H Q _ => ∃ (S : AS) (a : Addr) (al : List Nat) (d : Nat), vs = [.ref a, .str (SX.S al), .int (d : Int)] ∧ S a ∧ Srcs S H ∧ AlOk al ∧ d ≤ 1000 ∧ ∀ z w H', z.length = d → Word al w z → Ev S H H' → Q (.str (SX.S z)) H'
section
variable {P : Program} {w : World} {K : PySem.W.Frag} {mg : Str → Option Value} {base : Heap} {C : Addr} {r : Er}
set_option maxHeartbeats 4000000 in
theorem ok_law_letters {f : Addr} {fd : FuncData} (F : Def K mg "_law_letters" s_law_letters f fd) (T : Txt K mg C r) (b : Binds K fd ["source", "alphabet", "size"] []) (c_law_pick : Cal P w K mg base 1 "_law_pick" sp_law_pick []) : Cal P w K mg base 2 "_law_letters" (sp_law_letters) [] := by
  refine cal0 F b .nil sc_law_letters (fun vs H Q E h => ?_) (fun cdv A outer s H vs Q E hr h => ?_)
  · obtain ⟨_, _, _, _, rfl, _⟩ := h
    rfl
  · obtain ⟨S, a, al, d, rfl, ha, hS, hal, h0, k⟩ := h
    refine ⟨_, (pss_one (ps_ret (joinK K rfl pe_str (pe_lc (own := [("k", 3)]) rfl sc_law_letters.nd (pi_range1 (by rfl) T.b_range (pa_cons (pv 2) pa_nil)) (blkOk_by (by kernel_rfl)) (fun _ _ _ _ _ => (pg_name (i := 3) sc_law_letters.nd rfl (by first | exact Or.inl rfl | exact Or.inr rfl))) (fun _ _ _ _ _ => pts_nil) (fun _ _ _ _ _ => (pe_ix (ixK K rfl) (pv 1) (pe_c c_law_pick hr (by decide) rfl (pa_cons (pv 0) (pa_cons (pe_callB (lenK K rfl) (by rfl) T.b_len (by decide +kernel) (pa_cons (pv 1) pa_nil)) pa_nil))) (fun _ _ => rfl))))))), ?_⟩
    walk_at "go"
    have hpos := hal.pos
    have hle := hal.le
    have hl : (SX.S al).length = al.length := SX.S_len al
    refine ⟨by omega, by omega, fun D hD => ?_⟩
    rw [show (((d : Nat) : Int)).toNat = d from Int.toNat_natCast d]
    refine rng0_lc (fun i H' => Ev S H H' ∧ ∃ w : List Nat, w.length = i ∧ (∀ x ∈ w, x < al.length) ∧ H' D = some (.lst ((w.map fun x => al.getD x 0).map fun c => V.str ⟨#[c]⟩))) ⟨.laid hS hD, [], rfl, by simp, upd_same⟩ (fun i H' hi hq => ?_) (fun H' hq => ?_)
    · obtain ⟨e2, w, hw, hw2, hD2⟩ := hq
      walk_at "go"
      refine i_lenS (szl (by omega)) ?_
      walk_at "go"
      refine ⟨S, a, _, rfl, ha, e2.src, by omega, by omega, fun x H2 h3 h4 e3 => ?_⟩
      obtain ⟨x, rfl⟩ := Int.eq_ofNat_of_zero_le h3
      have hx : x < al.length := by omega
      have hc : al[x]? = some (al.getD x 0) := by
        rw [List.getD_eq_getElem?_getD, List.getElem?_eq_getElem hx]
        rfl
      refine i_ixS (szl (by omega)) (S_at hc) ?_
      refine ⟨_, e3.at (hS.notin hD) hD2, szlt (by rw [List.length_map, List.length_map]; omega), Ev.put hS (e2.trans e3) hD, w ++ [x], by simp [hw], fun y hy => ?_, by rw [upd_same, List.map_append, List.map_append]; rfl⟩
      rcases List.mem_append.mp hy with hy | hy
      · exact hw2 y hy
      · rw [List.mem_singleton.mp hy]; exact hx
    · obtain ⟨e2, w, hw, hw2, hD2⟩ := hq
      walk_at "go"
      have hj := join_one (w.map fun x => al.getD x 0)
      refine ⟨"", D, (w.map fun x => al.getD x 0).map fun c => (⟨#[c]⟩ : Str), rfl, rfl, .inl (SqL.of (by rw [hD2, List.map_map, List.map_map, List.map_map]; rfl)), ?_, ?_⟩
      · rw [join_sum, List.length_map, List.length_map, show (("" : Str).length) = 0 from rfl]
        omega
      · rw [hj]
        exact k _ w H' (by rw [List.length_map]; omega) ⟨hw2, rfl⟩ e2
end
abbrev s_law_sized : Stmt := top 54
theorem sc_law_sized : FnScope ["source", "many", "moves", "p", "t"] ["source", "many"] (fnScope s_law_sized) := ⟨rfl, rfl, rfl, by decide +kernel, rfl, by decide +kernel, by decide +kernel⟩
def sp_law_sized : Sp := fun vs H Q _ => ∃ (S : AS) (a : Addr) (m : Nat), vs = [.ref a, .int (m : Int)] ∧ S a ∧ Srcs S H ∧ 0 < m ∧ m ≤ 3 ∧ ∀ p rs gd H', Ev S H H' → MachL S H' p rs gd → WF m rs → GOK rs.length gd → Q (.ref p) H'
section
variable {P : Program} {w : World} {K : PySem.W.Frag} {mg : Str → Option Value} {base : Heap} {C : Addr} {r : Er}
set_option maxHeartbeats 4000000 in
theorem ok_law_sized {f : Addr} {fd : FuncData} (F : Def K mg "_law_sized" s_law_sized f fd) (T : Txt K mg C r) (b : Binds K fd ["source", "many"] []) (c_law_pick : Cal P w K mg base 1 "_law_pick" sp_law_pick []) (c_law_reader : Cal P w K mg base 2 "_law_reader" sp_law_reader []) : Cal P w K mg base 3 "_law_sized" (sp_law_sized) [] := by
  refine cal0 F b .nil sc_law_sized (fun vs H Q E h => ?_) (fun cdv A outer s H vs Q E hr h => ?_)
  · obtain ⟨_, _, _, rfl, _⟩ := h
    rfl
  · obtain ⟨S, a, m, rfl, ha, hS, hm0, hm, k⟩ := h
    refine ⟨_, (C8.pss_cut (ps_if (pt_cmpR op_ne (pe_c c_law_pick hr (by decide) rfl (pa_cons (pv 0) (pa_cons pe_int pa_nil))) pe_int (nomark _)) (pss_one (ps_ret (pe_c c_law_reader hr (by decide) rfl (pa_cons (pv 0) (pa_cons (pv 1) (pa_cons pe_int pa_nil)))))) pss_nil)
        (pss_cons (ps_setLc (i := 2) (own := [("p", 3)]) rfl sc_law_sized.nd rfl rfl (sw_true rfl rfl rfl (by decide +kernel)) (pi_range1 (by rfl) T.b_range (pa_cons pe_int pa_nil)) (blkOk_by (by kernel_rfl)) (fun _ _ _ _ _ => (pg_name (i := 3) sc_law_sized.nd rfl (by first | exact Or.inl rfl | exact Or.inr rfl))) (fun _ _ _ _ _ => pts_nil) (fun _ _ _ _ _ => (pe_lc (own := [("t", 4)]) rfl sc_law_sized.nd (pi_range1 (by rfl) T.b_range (pa_cons (pv 1) pa_nil)) (blkOk_by (by kernel_rfl)) (fun _ _ _ _ _ => (pg_name (i := 4) sc_law_sized.nd rfl (by first | exact Or.inl rfl | exact Or.inr rfl))) (fun _ _ _ _ _ => pts_nil) (fun _ _ _ _ _ => (pe_c c_law_pick hr (by decide) rfl (pa_cons (pv 0) (pa_cons pe_int pa_nil)))))))
        (pss_one (ps_ret (pe_tup (pa_cons (pv 2) (pa_cons (pe_lc (own := [("p", 3)]) rfl sc_law_sized.nd (pi_range1 (by rfl) T.b_range (pa_cons pe_int pa_nil)) (blkOk_by (by kernel_rfl)) (fun _ _ _ _ _ => (pg_name (i := 3) sc_law_sized.nd rfl (by first | exact Or.inl rfl | exact Or.inr rfl))) (fun _ _ _ _ _ => (pts_one (pt_cmpR op_ne (pe_c c_law_pick hr (by decide) rfl (pa_cons (pv 0) (pa_cons pe_int pa_nil))) pe_int (nomark _)))) (fun _ _ _ _ _ => (pv 3))) pa_nil))))))), ?_⟩
    walk_at "go"
    refine i_cut (fun σ H1 => σ = [some (.ref a), some (vn m), none, none, none] ∧ Ev S H H1) ?_ (fun σ H1 hq => ?_)
    · walk_at "go"
      refine ⟨S, a, _, rfl, ha, hS, by omega, by omega, fun d H1 g0 g1 e1 => ?_⟩
      walk_at "go"
      refine iteDN (fun hx => ?_) (fun hx => ?_)
      · walk_at "go"
        exact ⟨S, a, m, 8, rfl, ha, e1.src, hm0, hm, by omega, by omega, fun p rs gd H' e2 hM hw hg _ => k p rs gd H' (e1.trans e2) hM hw hg⟩
      · walk_at "go"
        exact ⟨rfl, e1⟩
    obtain ⟨rfl, e1⟩ := hq
    have hS1 := e1.src
    walk_at "go"
    refine ⟨by omega, by omega, fun D hD => ?_⟩
    refine rng0_lc (n := 60) (fun i H' => Ev S H1 H' ∧ ∃ bs rws, H' D = some (.lst (bs.map V.ref)) ∧ Paired (fun a r => IntsL (fun b => S b ∨ b = D) H' a r) bs rws ∧ rws.length = i ∧ ∀ r ∈ rws, r.length = m ∧ ∀ t ∈ r, t < 60) ⟨.laid hS1 hD, [], [], upd_same, .nil, rfl, by simp⟩ (fun i H' hi hq => ?_) (fun H' hq => ?_)
    · obtain ⟨e2, bs, rws, hD2, hbs, hlen, hrw⟩ := hq
      have hS2 := e2.src
      walk_at "go"
      refine ⟨by omega, by omega, fun E hE => ?_⟩
      rw [show ((m : Nat) : Int).toNat = m from Int.toNat_natCast m]
      refine rng0_lc (fun q H3 => Ev S H' H3 ∧ ∃ ns : List Nat, ns.length = q ∧ (∀ t ∈ ns, t < 60) ∧ H3 E = some (.lst (ns.map vn))) ⟨.laid hS2 hE, [], rfl, by simp, upd_same⟩ (fun q H3 hq3 hq => ?_) (fun H3 hq => ?_)
      · obtain ⟨e3, ns, hns, hns2, hE3⟩ := hq
        walk_at "go"
        refine ⟨S, a, _, rfl, ha, e3.src, by omega, by omega, fun x H4 g2 g3 e4 => ?_⟩
        obtain ⟨x, rfl⟩ := Int.eq_ofNat_of_zero_le g2
        refine ⟨_, e4.at (hS2.notin hE) hE3, szlt (by rw [List.length_map]; omega), Ev.put hS2 (e3.trans e4) hE, ns ++ [x], by simp [hns], fun y hy => ?_, by rw [upd_same, List.map_append]; rfl⟩
        rcases List.mem_append.mp hy with hy | hy
        · exact hns2 y hy
        · rw [List.mem_singleton.mp hy]; omega
      · obtain ⟨e3, ns, hns, hns2, hE3⟩ := hq
        have hED : E ≠ D := fun z => by rw [z, hD2] at hE; cases hE
        have hD3 := e3.at (hS1.notin hD) hD2
        refine ⟨_, hD3, szlt (by rw [List.length_map, hbs.length]; omega), Ev.put hS1 (e2.trans e3) hD, bs ++ [E], rws ++ [ns], by rw [upd_same, List.map_append]; rfl, ?_, by simp [hlen], fun r hr => ?_⟩
        · have kk : Kp (fun b => S b ∨ b = D) H' (upd H3 D (.lst (bs.map V.ref ++ [V.ref E]))) := fun b u n z => by
            rw [upd_ne (fun y => n (.inr y))]
            exact e3.kp b u (fun y => n (.inl y)) z
          exact U.Paired.snoc (Paired.mapP hbs fun b r z => z.kp kk fun _ z => z) ⟨fun z => z.elim (hS2.notin hE) hED, by rw [upd_ne hED]; exact hE3⟩
        · rcases List.mem_append.mp hr with hr | hr
          · exact hrw r hr
          · rw [List.mem_singleton.mp hr]; exact ⟨hns, hns2⟩
    · obtain ⟨e2, bs, rws, hD2, hbs, hlen, hrw⟩ := hq
      have hlen : rws.length = 60 := hlen
      walk_at "go"
      refine ⟨by omega, by omega, fun G hG => ?_⟩
      have hS2 := e2.src
      have hrows : RowsL S H' D rws := ⟨hS1.notin hD, bs, hD2, Paired.mapP hbs fun b r z => z.weak fun _ y => .inl y⟩
      have hwf : WF m rws := .of (by omega) (by omega) hm (fun r hr => (hrw r hr).1) (fun r hr t ht => by rw [hlen]; exact (hrw r hr).2 t ht)
      refine rng0_lc (n := 60) (fun i H3 => Ev S H' H3 ∧ ∃ gd : List Nat, H3 G = some (.lst (gd.map vn)) ∧ gd.Pairwise (· < ·) ∧ (∀ x ∈ gd, x < i) ∧ gd.length ≤ i) ⟨.laid hS2 hG, [], upd_same, .nil, by simp, Nat.le_refl _⟩ (fun i H3 hi hq => ?_) (fun H3 hq => ?_)
      · obtain ⟨e3, gd, hG3, hp, hlt, hgl⟩ := hq
        walk_at "go"
        refine ⟨S, a, _, rfl, ha, e3.src, by omega, by omega, fun x H4 g2 g3 e4 => ?_⟩
        walk_at "go"
        have hG4 := e4.at (hS2.notin hG) hG3
        refine iteDN (fun hx => ?_) (fun hx => ?_)
        · walk_at "go"
          refine ⟨_, hG4, szlt (by rw [List.length_map]; omega), Ev.put hS2 (e3.trans e4) hG, gd ++ [i], by rw [upd_same, List.map_append]; rfl, ?_, fun y hy => ?_, by simp; omega⟩
          · rw [List.pairwise_append]
            exact ⟨hp, by simp, fun y hy z hz => by rw [List.mem_singleton.mp hz]; exact hlt y hy⟩
          · rcases List.mem_append.mp hy with hy | hy
            · exact Nat.lt_succ_of_lt (hlt y hy)
            · rw [List.mem_singleton.mp hy]; omega
        · exact ⟨e3.trans e4, gd, hG4, hp, fun y hy => Nat.lt_succ_of_lt (hlt y hy), by omega⟩
      · obtain ⟨e3, gd, hG3, hp, hlt, hgl⟩ := hq
        walk_at "go"
        refine ⟨sz2, fun q hq => ?_⟩
        have e6 : Ev S H3 (upd H3 q (.tup [.ref D, .ref G])) := .laid e3.src hq
        exact k q rws gd _ (((e1.trans e2).trans e3).trans e6) ⟨e3.src.notin hq, D, G, upd_same, (hrows.ev e3).ev e6, hS2.notin hG, e6.at (hS2.notin hG) hG3⟩ hwf ⟨hp, fun y hy => by rw [hlen]; exact hlt y hy⟩
end
abbrev s_law_passed : Stmt := top 55
theorem sc_law_passed : FnScope ["source", "told", "moves", "row"] ["source", "told"] (fnScope s_law_passed) := ⟨rfl, rfl, rfl, by decide +kernel, rfl, by decide +kernel, by decide +kernel⟩
def sp_law_passed : Sp := fun vs H Q _ => ∃ (S : AS) (a p : Addr) (rs : Rws) (gd : List Nat) (m : Nat), vs = [.ref a, .ref p] ∧ S a ∧ Srcs S H ∧ MachL S H p rs gd ∧ WF m rs ∧ GOK rs.length gd ∧
  ∀ q pm pg t H', Ev S H H' → H q = none → H' q = some (.lst [.ref pm, .ref pg]) → RowsF t (Old H) H' pm rs → IntsF t (Old H) H' pg gd → Q (.ref q) H'
section
variable {P : Program} {w : World} {K : PySem.W.Frag} {mg : Str → Option Value} {base : Heap} {C : Addr} {r : Er}
set_option maxHeartbeats 4000000 in
theorem ok_law_passed {f : Addr} {fd : FuncData} (F : Def K mg "_law_passed" s_law_passed f fd) (T : Txt K mg C r) (b : Binds K fd ["source", "told"] []) (c_law_pick : Cal P w K mg base 1 "_law_pick" sp_law_pick []) : Cal P w K mg base 2 "_law_passed" (sp_law_passed) [] := by
  refine cal0 F b .nil sc_law_passed (fun vs H Q E h => ?_) (fun cdv A outer s H vs Q E hr h => ?_)
  · obtain ⟨_, _, _, _, _, _, rfl, _⟩ := h
    rfl
  · obtain ⟨S, a, p, rs, gd, m, rfl, ha, hS, hp, hw, hg, k⟩ := h
    refine ⟨_, (pss_cons (ps_setLc (i := 2) (own := [("row", 3)]) rfl sc_law_passed.nd rfl rfl (sw_true rfl rfl rfl (by decide +kernel)) (seqK K rfl (pe_ix (ixK K rfl) (pv 1) pe_int (fun _ _ => rfl))) (blkOk_by (by kernel_rfl)) (fun _ _ _ _ _ => (pg_name (i := 3) sc_law_passed.nd rfl (by first | exact Or.inl rfl | exact Or.inr rfl))) (fun _ _ _ _ _ => pts_nil) (fun _ _ _ _ _ => (pe_ifExp (pt_cmpR op_eq (pe_c c_law_pick hr (by decide) rfl (pa_cons (pv 0) (pa_cons pe_int pa_nil))) pe_int (nomark _)) (pe_callTy (listK K rfl) (by rfl) T.b_list (by decide +kernel) (pa_cons (pv 3) pa_nil)) (pe_callTy (tupleK K rfl) (by rfl) T.b_tuple (by decide +kernel) (pa_cons (pv 3) pa_nil)))))
        (pss_cons (ps_if (pt_cmpR op_eq (pe_c c_law_pick hr (by decide) rfl (pa_cons (pv 0) (pa_cons pe_int pa_nil))) pe_int (nomark _)) (pss_one (ps_ret (pe_lst (pa_cons (pv 2) (pa_cons (pe_callTy (listK K rfl) (by rfl) T.b_list (by decide +kernel) (pa_cons (pe_ix (ixK K rfl) (pv 1) pe_int (fun _ _ => rfl)) pa_nil)) pa_nil))))) pss_nil)
        (pss_one (ps_ret (pe_lst (pa_cons (pe_callTy (tupleK K rfl) (by rfl) T.b_tuple (by decide +kernel) (pa_cons (pv 2) pa_nil)) (pa_cons (pe_callTy (tupleK K rfl) (by rfl) T.b_tuple (by decide +kernel) (pa_cons (pe_ix (ixK K rfl) (pv 1) pe_int (fun _ _ => rfl)) pa_nil)) pa_nil))))))), ?_⟩
    walk_at "go"
    obtain ⟨hpS, qm, qg, hp1, ⟨hqmS, as, hp2, hp3⟩, hqgS, hp4⟩ := hp
    have hle := hw.le
    have hgl := gok_len hg
    have hal := hp3.length
    refine i_ixT hp1 (i := 0) (v := .ref qm) rfl ?_
    refine seq_lc (t := false) hp2 (fun D hD => ⟨fun j H3 => Ev S H H3 ∧ ∃ bs, H3 D = some (.lst (bs.map V.ref)) ∧ Paired (fun a r => Ints (fun b => Old H b ∨ b = D) H3 a r) bs (rs.take j), ⟨.laid hS hD, [], upd_same, by simp; exact .nil⟩, fun j H3 _ ⟨e, _⟩ => e.at hqmS hp2, fun j v H3 hvj hq => ?_, fun H3 hq => ?_⟩)
    · obtain ⟨e1, bs, hD3, hbs⟩ := hq
      obtain ⟨b, hvb, rfl⟩ := at_map hvj
      obtain ⟨rw', hrw, hib1, hib2⟩ := Paired.at0 hp3 hvb
      walk_at "go"
      refine ⟨S, a, _, rfl, ha, e1.src, by omega, by omega, fun d H4 g0 g1 e2 => ?_⟩
      have e12 := e1.trans e2
      have hD4 := e2.at (hS.notin hD) hD3
      have hb4 := e12.at hib1 hib2
      have hfin : ∀ l o, H4 l = none → (∃ t, o = sq t (rw'.map vn)) → ∃ acc, (upd H4 l o) D = some (.lst acc) ∧ acc.length < sizeLine ∧ Ev S H (upd (upd H4 l o) D (.lst (acc ++ [.ref l]))) ∧ ∃ bs, (upd (upd H4 l o) D (.lst (acc ++ [.ref l]))) D = some (.lst (bs.map V.ref)) ∧ Paired (fun a r => Ints (fun b => Old H b ∨ b = D) (upd (upd H4 l o) D (.lst (acc ++ [.ref l]))) a r) bs (rs.take (j + 1)) := fun l o hl ⟨t, ho⟩ => by
        have hDl : D ≠ l := ne_of_none hD4 hl
        refine ⟨bs.map V.ref, by rw [upd_ne hDl]; exact hD4, szlt (by rw [List.length_map, hbs.length, List.length_take]; omega), Ev.put hS (e12.trans (.laid e12.src hl)) hD, bs ++ [l], by rw [upd_same, List.map_append]; rfl, ?_⟩
        rw [take_at hrw]
        have kk : Kp (fun b => S b ∨ b = D) H3 (upd (upd H4 l o) D (.lst (bs.map V.ref ++ [V.ref l]))) := fun c u n z => by
          have h4 := e2.kp c u (fun y => n (.inl y)) z
          rw [upd_ne (fun y => n (.inr y)), upd_ne (ne_of_none h4 hl)]
          exact h4
        exact U.Paired.snoc (Paired.mapP hbs fun b r z => z.kp kk fun b hb => hb.imp (fun z => hS.old z) id) ⟨fun z => z.elim (Old.none (e12.free hl)) (Ne.symm hDl), t, by rw [upd_ne (Ne.symm hDl), upd_same, ho]⟩
      walk_at "go"
      refine iteD (fun hx => ?_) (fun hx => ?_)
      · walk_at "go"
        exact i_listOf (t := false) hb4 fun l hl => hfin l _ hl ⟨false, rfl⟩
      · walk_at "go"
        exact i_tupleOfL hb4 fun l hl => hfin l _ hl ⟨true, rfl⟩
    · obtain ⟨e1, bs, hD3, hbs⟩ := hq
      rw [List.length_map, hal, List.take_length] at hbs
      walk_at "go"
      refine ⟨S, a, _, rfl, ha, e1.src, by omega, by omega, fun d H4 g0 g1 e2 => ?_⟩
      have e12 := e1.trans e2
      have hD4 := e2.at (hS.notin hD) hD3
      have hp14 : H4 p = some (.tup [.ref qm, .ref qg]) := e12.at hpS hp1
      have hp44 := e12.at hqgS hp4
      have hrD : ∀ H5, Same H4 H5 → Paired (fun a r => Ints (Old H) H5 a r) bs rs := fun H5 s => Paired.mapP hbs fun b r z => by
        refine ((z.kp (T' := fun b => S b ∨ b = D) (fun c u n y => e2.kp c u (fun y => n (.inl y)) y) fun b hb => hb.imp (fun z => hS.old z) id).same s).weak fun b hb => .inl hb
      walk_at "go"
      refine iteD (fun hx => ?_) (fun hx => ?_)
      · walk_at "go"
        refine i_listOf (t := false) hp44 fun g hg0 => ?_
        walk_at "go"
        refine ⟨sz2, fun q hq => ?_⟩
        have s1 : Same H4 (upd H4 g (.lst (gd.map vn))) := same_laid hg0
        have s2 : Same H4 (upd (upd H4 g (.lst (gd.map vn))) q (.lst [.ref D, .ref g])) := s1.trans (same_laid hq)
        refine k q D g false _ (e12.trans (.of_same e12.src s2)) (e12.free (same_free s1 hq)) upd_same ⟨Old.none hD, bs, s2 _ _ hD4, hrD _ s2⟩ ⟨Old.none (e12.free hg0), ?_⟩
        rw [upd_ne (ne_of_none upd_same hq)]
        exact upd_same
      · walk_at "go"
        refine i_tupleOfL hD4 fun mm hmm => ?_
        walk_at "go"
        have s0 : Same H4 (upd H4 mm (.tup (bs.map V.ref))) := same_laid hmm
        refine i_ixT (s0 _ _ hp14) (i := 1) (v := .ref qg) rfl ?_
        walk_at "go"
        refine i_tupleOfL (s0 _ _ hp44) fun g hg0 => ?_
        walk_at "go"
        refine ⟨sz2, fun q hq => ?_⟩
        have s1 : Same H4 (upd (upd H4 mm (.tup (bs.map V.ref))) g (.tup (gd.map vn))) := s0.trans (same_laid hg0)
        have s2 : Same H4 (upd (upd (upd H4 mm (.tup (bs.map V.ref))) g (.tup (gd.map vn))) q (.lst [.ref mm, .ref g])) := s1.trans (same_laid hq)
        have hgq : g ≠ q := ne_of_none upd_same hq
        have hmg : mm ≠ g := ne_of_none upd_same hg0
        have hmq : mm ≠ q := ne_of_none (by rw [upd_ne hmg, upd_same]) hq
        refine k q mm g true _ (e12.trans (.of_same e12.src s2)) (e12.free (same_free s1 hq)) upd_same ⟨Old.none (e12.free hmm), bs, ?_, hrD _ s2⟩ ⟨Old.none (e12.free (same_free s0 hg0)), ?_⟩
        · rw [upd_ne hmq, upd_ne hmg]
          exact upd_same
        · rw [upd_ne hgq]
          exact upd_same
end
abbrev s_law_spoilt : Stmt := top 56
theorem sc_law_spoilt : FnScope ["passed", "row"] ["passed"] (fnScope s_law_spoilt) := ⟨rfl, rfl, rfl, by decide +kernel, rfl, by decide +kernel, by decide +kernel⟩
theorem sq_ne {t t' : Bool} {ns : List Nat} {x : Addr} {l : List V} : sq t (ns.map vn) ≠ sq t' (V.ref x :: l) := by
  intro e
  cases ns with
  | nil => cases t <;> cases t' <;> cases e
  | cons n ns => cases t <;> cases t' <;> cases e
/-- what stands in the list that is spoilt -/
def El (Z : AS) (pm q : Addr) (n : Nat) (H : Hp) (es : List V) : Prop := ∀ v ∈ es, ∃ a, v = .ref a ∧ a ≠ pm ∧ a ≠ q ∧ ¬ Z a ∧ ((∃ xs, H a = some (.lst xs) ∧ xs.length ≤ n) ∨ ∃ xs, H a = some (.tup xs))
def sp_law_spoilt : Sp := fun vs H Q _ => ∃ (q pm pg : Addr) (t : Bool) (rs : Rws) (gd : List Nat) (m : Nat) (Z : AS), vs = [.ref q] ∧ H q = some (.lst [.ref pm, .ref pg]) ∧ RowsF t Z H pm rs ∧ IntsF t Z H pg gd ∧ WF m rs ∧ TO Z H ∧ gd.length ≤ 60 ∧
  ∀ H', Kp (Lsts Z H) H H' → H' q = some (.lst [.ref pm, .ref pg]) → Q (.int 2) H'
section
variable {P : Program} {w : World} {K : PySem.W.Frag} {mg : Str → Option Value} {base : Heap} {C : Addr} {r : Er}
set_option maxHeartbeats 4000000 in
theorem ok_law_spoilt {f : Addr} {fd : FuncData} (F : Def K mg "_law_spoilt" s_law_spoilt f fd) (T : Txt K mg C r) (b : Binds K fd ["passed"] []) : Cal P w K mg base 1 "_law_spoilt" (sp_law_spoilt) [] := by
  refine cal0 F b .nil sc_law_spoilt (fun vs H Q E h => ?_) (fun cdv A outer s H vs Q E hr h => ?_)
  · obtain ⟨_, _, _, _, _, _, _, _, rfl, _⟩ := h
    rfl
  · obtain ⟨q, pm, pg, t, rs, gd, m, Z, rfl, hq, hm, hg, hw, hZ, hgl, k⟩ := h
    refine ⟨_, (C8.pss_cut (ps_if (pt_val (pe_callB (isiK K rfl) (by rfl) T.b_isinstance (by decide +kernel) (pa_cons (pe_ix (ixK K rfl) (pv 0) pe_int (fun _ _ => rfl)) (pa_cons (pe_bltn (v := .ty "list") (u := .type "list") (by rfl) T.b_list (by decide +kernel) rfl) pa_nil)))) (pss_cons (ps_expr (bmK K rfl (pe_bm PySem.F.plainAttrs_list PySem.F.slot_list_append PySem.F.type_list_append mt_append (pe_ix (ixK K rfl) (pv 0) pe_int (fun _ _ => rfl)) (pa_cons (pe_lst (pa_cons pe_int pa_nil)) pa_nil))))
        (pss_cons (ps_asg (pe_lst (pa_cons (pe_callB (lenK K rfl) (by rfl) T.b_len (by decide +kernel) (pa_cons (pe_ix (ixK K rfl) (pv 0) pe_int (fun _ _ => rfl)) pa_nil)) pa_nil)) (pg_sub (pe_ix (ixK K rfl) (pv 0) pe_int (fun _ _ => rfl)) pe_int set_list))
        (pss_one (ps_expr (bmK K rfl (pe_bm PySem.F.plainAttrs_list PySem.F.slot_list_append PySem.F.type_list_append mt_append (pe_ix (ixK K rfl) (pv 0) pe_int (fun _ _ => rfl)) (pa_cons (pe_un un_neg pe_int) pa_nil))))))) pss_nil)
        (pss_cons (ps_for PassesOwn.never rfl (seqK K rfl (pe_ix (ixK K rfl) (pv 0) pe_int (fun _ _ => rfl))) (pg_name (i := 1) sc_law_spoilt.nd rfl (by first | exact Or.inl rfl | exact Or.inr rfl))
        (pss_one (ps_if (pt_val (pe_callB (isiK K rfl) (by rfl) T.b_isinstance (by decide +kernel) (pa_cons (pv 1) (pa_cons (pe_bltn (v := .ty "list") (u := .type "list") (by rfl) T.b_list (by decide +kernel) rfl) pa_nil)))) (pss_cons (ps_expr (bmK K rfl (pe_bm PySem.F.plainAttrs_list PySem.F.slot_list_append PySem.F.type_list_append mt_append (pv 1) (pa_cons pe_int pa_nil))))
        (pss_one (ps_asg pe_int (pg_sub (pv 1) pe_int set_list)))) pss_nil)))
        (pss_one (ps_ret (pe_callB (lenK K rfl) (by rfl) T.b_len (by decide +kernel) (pa_cons (pv 0) pa_nil)))))), ?_⟩
    obtain ⟨hpmZ, as, hm2, hm3⟩ := hm
    obtain ⟨hgZ, hg2⟩ := hg
    have hal := hm3.length
    have hle := hw.le
    have hpos := hw.pos
    obtain ⟨a0, as', rfl⟩ : ∃ a0 as', as = a0 :: as' := by
      cases as with
      | nil => simp at hal; omega
      | cons a l => exact ⟨a, l, rfl⟩
    have hel : ∀ a ∈ a0 :: as', ¬ Z a ∧ ∃ (t' : Bool) (r : List Nat), H a = some (sq t' (r.map vn)) ∧ r.length ≤ 3 := fun a ha => by
      obtain ⟨j, hj⟩ := List.mem_iff_getElem?.mp ha
      obtain ⟨r, hr, h1, t', h2⟩ := Paired.at0 hm3 hj
      exact ⟨h1, t', r, h2, by have := hw.wid _ (List.mem_of_getElem? hr); have := hw.m3; omega⟩
    have hqpm : pm ≠ q := fun e => by
      rw [e, hq] at hm2
      cases t with
      | true => cases hm2
      | false =>
        have e2 : [V.ref pm, V.ref pg] = (a0 :: as').map V.ref := by
          injection hm2 with hm2
          injection hm2
        have hpm : pm ∈ a0 :: as' := by
          have : V.ref pm ∈ (a0 :: as').map V.ref := by rw [← e2]; simp
          obtain ⟨x, hx, ex⟩ := List.mem_map.mp this
          cases ex
          exact hx
        obtain ⟨_, t', r, h2, _⟩ := hel pm hpm
        rw [e, hq] at h2
        exact sq_ne (t := t') (t' := false) (Option.some.inj h2).symm
    have hqpg : pg ≠ q := fun e => by
      rw [e, hq] at hg2
      exact sq_ne (t' := false) (Option.some.inj hg2).symm
    have hgm : pg ≠ pm := fun e => by
      rw [e, hm2] at hg2
      exact sq_ne (Option.some.inj hg2).symm
    have hEl0 : El Z pm q 100 H ((a0 :: as').map V.ref) := fun v hv => by
      obtain ⟨a, ha, rfl⟩ := List.mem_map.mp hv
      obtain ⟨h1, t', r, h2, h3⟩ := hel a ha
      refine ⟨a, rfl, fun e => ?_, fun e => ?_, h1, ?_⟩
      · rw [e, hm2] at h2
        exact sq_ne (Option.some.inj h2).symm
      · rw [e, hq] at h2
        exact sq_ne (t' := false) (Option.some.inj h2).symm
      · cases t' with
        | false => exact .inl ⟨_, h2, by rw [List.length_map]; omega⟩
        | true => exact .inr ⟨_, h2⟩
    walk_at "go"
    refine i_cut (fun σ H1 => ∃ es : List V, σ = [some (.ref q), none] ∧ Kp (Lsts Z H) H H1 ∧ H1 q = some (.lst [.ref pm, .ref pg]) ∧ H1 pm = some (sq t es) ∧ es.length ≤ 61 ∧ El Z pm q 100 H1 es) ?_ (fun σ H1 hq => ?_)
    · walk_at "go"
      cases t with
      | true =>
        refine i_isiT (.tup hm2) (r := false) (by decide +kernel) ?_
        walk_at "go"
        exact ⟨_, rfl, .refl, hq, hm2, by rw [List.length_map]; omega, hEl0⟩
      | false =>
        have hm2 : H pm = some (.lst ((a0 :: as').map V.ref)) := hm2
        have hg2 : H pg = some (.lst (gd.map vn)) := hg2
        refine i_isiT (.lst hm2) (r := true) (by decide +kernel) ?_
        walk_at "go"
        refine ⟨sz1, fun c1 hc1 => ?_⟩
        have s1 : Same H (upd H c1 (.lst [.int 0])) := same_laid hc1
        have k1 : Kp (Lsts Z H) H (upd H c1 (.lst [.int 0])) := .of_same s1
        have q1 := s1 _ _ hq
        have g1 := s1 _ _ hg2
        have m1 := s1 _ _ hm2
        have hc1' : (upd H c1 (.lst [.int 0])) c1 = some (.lst [.int 0]) := upd_same
        have hc1m : c1 ≠ pm := (ne_of_none hm2 hc1).symm
        have hc1q : c1 ≠ q := (ne_of_none hq hc1).symm
        have hc1g : c1 ≠ pg := (ne_of_none hg2 hc1).symm
        have hc1Z : ¬ Z c1 := fun z => Old.none hc1 (hZ c1 z)
        generalize upd H c1 (.lst [.int 0]) = H1 at *
        walk_at "go"
        refine i_append m1 (by rw [List.length_map]; omega) ?_
        have k2 := kp_lst (o := .lst ((a0 :: as').map V.ref ++ [V.ref c1])) k1 m1 hpmZ
        have m2 : (upd H1 pm (.lst ((a0 :: as').map V.ref ++ [V.ref c1]))) pm = some (.lst ((a0 :: as').map V.ref ++ [V.ref c1])) := upd_same
        have oth : ∀ b u, b ≠ pm → H1 b = some u → (upd H1 pm (.lst ((a0 :: as').map V.ref ++ [V.ref c1]))) b = some u := fun b u n e => by rw [upd_ne n]; exact e
        generalize upd H1 pm (.lst ((a0 :: as').map V.ref ++ [V.ref c1])) = H2 at *
        have q2 := oth _ _ hqpm.symm q1
        have g2 := oth _ _ hgm g1
        have hcc2 := oth _ _ hc1m hc1'
        walk_at "go"
        refine ⟨sz1, fun c2 hc2 => ?_⟩
        have s3 : Same H2 (upd H2 c2 (.lst [V.int ((List.map V.ref (a0 :: as') ++ [V.ref c1]).length : Nat)])) := same_laid hc2
        have k3 := kp_laid (o := .lst [V.int ((List.map V.ref (a0 :: as') ++ [V.ref c1]).length : Nat)]) k2 hc2
        have q3 := s3 _ _ q2
        have g3 := s3 _ _ g2
        have m3 := s3 _ _ m2
        have hcc3 := s3 _ _ hcc2
        have hc2' : (upd H2 c2 (.lst [V.int ((List.map V.ref (a0 :: as') ++ [V.ref c1]).length : Nat)])) c2 = some (.lst [V.int ((List.map V.ref (a0 :: as') ++ [V.ref c1]).length : Nat)]) := upd_same
        have hc2m : c2 ≠ pm := (ne_of_none m2 hc2).symm
        have hc2q : c2 ≠ q := (ne_of_none q2 hc2).symm
        have hc2g : c2 ≠ pg := (ne_of_none g2 hc2).symm
        have hH2c : H c2 = none := by
          have := hc2
          cases hh : H c2 with
          | none => rfl
          | some o =>
            by_cases hb : Lsts Z H c2
            · obtain ⟨_, xs, hx⟩ := hb
              have e1 := s1 _ _ hx
              by_cases e : c2 = pm
              · exact absurd e hc2m
              · rw [oth _ _ e e1] at this
                cases this
            · rw [k2 _ _ hb hh] at this
              cases this
        have hc2Z : ¬ Z c2 := fun z => Old.none hH2c (hZ c2 z)
        generalize upd H2 c2 (.lst [V.int ((List.map V.ref (a0 :: as') ++ [V.ref c1]).length : Nat)]) = H3 at *
        walk_at "go"
        refine i_setL m3 (j := 0) (ixN_nat (y := 0) (by simp)) ?_
        have k4 := kp_lst (o := .lst ((List.map V.ref (a0 :: as') ++ [V.ref c1]).set 0 (.ref c2))) k3 m3 hpmZ
        have oth4 : ∀ b u, b ≠ pm → H3 b = some u → (upd H3 pm (.lst ((List.map V.ref (a0 :: as') ++ [V.ref c1]).set 0 (.ref c2)))) b = some u := fun b u n e => by rw [upd_ne n]; exact e
        have m4 : (upd H3 pm (.lst ((List.map V.ref (a0 :: as') ++ [V.ref c1]).set 0 (.ref c2)))) pm = some (.lst ((List.map V.ref (a0 :: as') ++ [V.ref c1]).set 0 (.ref c2))) := upd_same
        generalize upd H3 pm (.lst ((List.map V.ref (a0 :: as') ++ [V.ref c1]).set 0 (.ref c2))) = H4 at *
        have q4 := oth4 _ _ hqpm.symm q3
        have g4 := oth4 _ _ hgm g3
        walk_at "go"
        refine i_append g4 (by rw [List.length_map]; omega) ?_
        have k5 := kp_lst (o := .lst (gd.map vn ++ [V.int (-1)])) k4 g4 hgZ
        walk_at "go"
        have o5 : ∀ b u, b ≠ pg → H4 b = some u → (upd H4 pg (.lst (gd.map vn ++ [V.int (-1)]))) b = some u := fun b u n e => by rw [upd_ne n]; exact e
        refine ⟨_, rfl, k5, o5 _ _ hqpg.symm q4, o5 _ _ hgm.symm m4, by rw [List.length_set, List.length_append, List.length_map]; simp at hal ⊢; omega, fun v hv => ?_⟩
        rcases List.mem_or_eq_of_mem_set hv with hv | rfl
        · rcases List.mem_append.mp hv with hv | hv
          · obtain ⟨a, rfl, h1, h2, h3, h4⟩ := hEl0 v hv
            have hag : a ≠ pg ∨ a = pg := by by_cases e : a = pg <;> simp [e]
            rcases hag with hag | rfl
            · refine ⟨a, rfl, h1, h2, h3, h4.imp (fun ⟨xs, h, l⟩ => ⟨xs, ?_, l⟩) fun ⟨xs, h⟩ => ⟨xs, ?_⟩⟩
              · exact o5 _ _ hag (oth4 _ _ h1 (s3 _ _ (oth _ _ h1 (s1 _ _ h))))
              · exact o5 _ _ hag (oth4 _ _ h1 (s3 _ _ (oth _ _ h1 (s1 _ _ h))))
            · exact ⟨a, rfl, h1, h2, h3, .inl ⟨_, upd_same, by rw [List.length_append, List.length_map]; simp; omega⟩⟩
          · rw [List.mem_singleton.mp hv]
            exact ⟨c1, rfl, hc1m, hc1q, hc1Z, .inl ⟨_, o5 _ _ hc1g (oth4 _ _ hc1m hcc3), by decide⟩⟩
        · exact ⟨c2, rfl, hc2m, hc2q, hc2Z, .inl ⟨_, o5 _ _ hc2g (oth4 _ _ hc2m hc2'), by show 1 ≤ 100; decide⟩⟩
    obtain ⟨es, rfl, k1, q1, m1, hes, hE⟩ := hq
    walk_at "go"
    refine seq_for m1 (fun i σ H2 => ∃ x1 : Option V, σ = [some (.ref q), x1] ∧ Kp (Lsts Z H) H H2 ∧ H2 q = some (.lst [.ref pm, .ref pg]) ∧ H2 pm = some (sq t es) ∧ El Z pm q (100 + i) H2 es) ⟨none, rfl, k1, q1, m1, hE⟩ (fun i σ H2 _ ⟨_, _, _, _, e, _⟩ => e) (fun i v σ H2 hv hq => ?_) (fun σ H2 hq => ?_)
    · obtain ⟨x1, rfl, k2, q2, m2, hE2⟩ := hq
      have hi : i < es.length := (List.getElem?_eq_some_iff.mp hv).1
      obtain ⟨a, rfl, h1, h2, h3, h4⟩ := hE2 v (List.mem_of_getElem? hv)
      have hmono : El Z pm q (100 + (i + 1)) H2 es := fun v hv => let ⟨b, e, g1, g2, g3, g4⟩ := hE2 v hv; ⟨b, e, g1, g2, g3, g4.imp (fun ⟨xs, h, l⟩ => ⟨xs, h, by omega⟩) id⟩
      walk_at "go"
      rcases h4 with ⟨xs, hx, hl⟩ | ⟨xs, hx⟩
      · refine i_isiT (.lst hx) (r := true) (by decide +kernel) ?_
        walk_at "go"
        refine i_append hx (by omega) ?_
        have k3 := kp_lst (o := .lst (xs ++ [V.int 7])) k2 hx h3
        have hx3 : (upd H2 a (.lst (xs ++ [V.int 7]))) a = some (.lst (xs ++ [V.int 7])) := upd_same
        have o3 : ∀ b u, b ≠ a → H2 b = some u → (upd H2 a (.lst (xs ++ [V.int 7]))) b = some u := fun b u n e => by rw [upd_ne n]; exact e
        generalize upd H2 a (.lst (xs ++ [V.int 7])) = H3 at *
        walk_at "go"
        refine i_setL hx3 (j := 0) (ixN_nat (y := 0) (by simp)) ?_
        have k4 := kp_lst (o := .lst ((xs ++ [V.int 7]).set 0 (.int 99))) k3 hx3 h3
        have o4 : ∀ b u, b ≠ a → H3 b = some u → (upd H3 a (.lst ((xs ++ [V.int 7]).set 0 (.int 99)))) b = some u := fun b u n e => by rw [upd_ne n]; exact e
        walk_at "go"
        refine ⟨_, rfl, k4, o4 _ _ h2.symm (o3 _ _ h2.symm q2), o4 _ _ h1.symm (o3 _ _ h1.symm m2), fun v hv => ?_⟩
        obtain ⟨b, rfl, g1, g2, g3, g4⟩ := hE2 v hv
        by_cases e : b = a
        · subst e
          exact ⟨b, rfl, g1, g2, g3, .inl ⟨_, upd_same, by rw [List.length_set, List.length_append]; simp; omega⟩⟩
        · exact ⟨b, rfl, g1, g2, g3, g4.imp (fun ⟨ys, h, l⟩ => ⟨ys, o4 _ _ e (o3 _ _ e h), by omega⟩) fun ⟨ys, h⟩ => ⟨ys, o4 _ _ e (o3 _ _ e h)⟩⟩
      · refine i_isiT (.tup hx) (r := false) (by decide +kernel) ?_
        walk_at "go"
        exact ⟨_, rfl, k2, q2, m2, hmono⟩
    · obtain ⟨x1, rfl, k2, q2, m2, hE2⟩ := hq
      walk_at "go"
      exact k H2 k2 q2
end
abbrev s_law_right : Stmt := top 57
theorem sc_law_right : FnScope ["alphabet", "told", "reader", "texts", "moves", "text", "due", "room", "row"] ["alphabet", "told", "reader", "texts"] (fnScope s_law_right) := ⟨rfl, rfl, rfl, by decide +kernel, rfl, by decide +kernel, by decide +kernel⟩
def sp_law_right (K : PySem.W.Frag) (C : Addr) (r : Er) : Sp := fun vs H Q _ => ∃ (Z : AS) (al : List Nat) (p pr pT : Addr) (rs : Rws) (gd : List Nat) (zs : List (List Nat)), vs = [.str (SX.S al), .ref p, .ref pr, .ref pT] ∧ Mach Z H p rs gd ∧ Rd C Z H pr al rs gd ∧ AlOk al ∧ WF al.length rs ∧ GOK rs.length gd ∧
  H pT = some (.lst (zs.map fun z => .str (SX.S z))) ∧ zs.length ≤ 1000 ∧ (∀ z ∈ zs, ∃ w, Word al w z ∧ z.length ≤ 40) ∧ ∀ H', Same H H' → Q (.bl true) H'
section
variable {P : Program} {w : World} {K : PySem.W.Frag} {mg : Str → Option Value} {base : Heap} {C : Addr} {r : Er}
set_option maxHeartbeats 4000000 in
theorem ok_law_right {f : Addr} {fd : FuncData} (F : Def K mg "_law_right" s_law_right f fd) (T : Txt K mg C r) (b : Binds K fd ["alphabet", "told", "reader", "texts"] []) (c_law_is_reader : Cal P w K mg base 2 "_law_is_reader" (sp_law_is_reader C) []) (c_law_is_number : Cal P w K mg base 1 "_law_is_number" sp_law_is_number []) (c_law_room : Cal P w K mg base 1 "_law_room" sp_law_room []) (x_room : MetX P w K mg base 5 C "room" (sp_Reader_room C r)) (x_in : InX P w K mg base 5 C (sp_Readerd_containsd C r)) (o_len : OwnCal P w K mg base 1 C "__len__" (sp_Readerd_lend C)) : Cal P w K mg base 7 "_law_right" (sp_law_right K C r) [] := by
  refine cal0 F b .nil sc_law_right (fun vs H Q E h => ?_) (fun cdv A outer s H vs Q E hr h => ?_)
  · obtain ⟨_, _, _, _, _, _, _, _, rfl, _⟩ := h
    rfl
  · obtain ⟨Z, al, p, pr, pT, rs, gd, zs, rfl, hq, hp, ha, hw, hg, hT, hzl, hz, k⟩ := h
    refine ⟨_, (pss_cons (ps_set (i := 4) sc_law_right.nd rfl (by first | exact Or.inl rfl | exact Or.inr rfl) (pe_callTy (tupleK K rfl) (by rfl) T.b_tuple (by decide +kernel) (pa_cons (pe_lc (own := [("row", 8)]) rfl sc_law_right.nd (seqK K rfl (pe_ix (ixK K rfl) (pv 1) pe_int (fun _ _ => rfl))) (blkOk_by (by kernel_rfl)) (fun _ _ _ _ _ => (pg_name (i := 8) sc_law_right.nd rfl (by first | exact Or.inl rfl | exact Or.inr rfl))) (fun _ _ _ _ _ => pts_nil) (fun _ _ _ _ _ => (pe_callTy (tupleK K rfl) (by rfl) T.b_tuple (by decide +kernel) (pa_cons (pv 8) pa_nil)))) pa_nil)))
        (pss_cons (ps_if (PW.pt (pw_or (pt_not (pt_val (pe_c c_law_is_reader hr (by decide) rfl (pa_cons (pv 2) (pa_cons (pv 0) pa_nil))))) (pw_or (pt_cmpR (neDK K rfl hr.units) (fldK K rfl (pv 2) rfl) (pv 4) (nomark _)) (pw_or1 (pt_cmpR (neDK K rfl hr.units) (fldK K rfl (pv 2) rfl) (pe_callTy (tupleK K rfl) (by rfl) T.b_tuple (by decide +kernel) (pa_cons (pe_ix (ixK K rfl) (pv 1) pe_int (fun _ _ => rfl)) pa_nil)) (nomark _)))))) (pss_one (ps_ret pe_bl)) pss_nil)
        (pss_cons (ps_if (pt_not (pt_val (pe_c c_law_is_number hr (by decide) rfl (pa_cons (pe_callB (ownLen o_len hr (by decide)) (by rfl) T.b_len (by decide +kernel) (pa_cons (pv 2) pa_nil)) (pa_cons (pe_callB (lenK K rfl) (by rfl) T.b_len (by decide +kernel) (pa_cons (pv 4) pa_nil)) (pa_cons (pe_callB (lenK K rfl) (by rfl) T.b_len (by decide +kernel) (pa_cons (pv 4) pa_nil)) pa_nil)))))) (pss_one (ps_ret pe_bl)) pss_nil)
        (pss_cons (ps_for PassesOwn.never rfl (seqK K rfl (pv 3)) (pg_name (i := 5) sc_law_right.nd rfl (by first | exact Or.inl rfl | exact Or.inr rfl))
        (pss_cons (ps_set (i := 6) sc_law_right.nd rfl (by first | exact Or.inl rfl | exact Or.inr rfl) (pe_c c_law_room hr (by decide) rfl (pa_cons (pv 0) (pa_cons (pv 4) (pa_cons (pv 5) pa_nil)))))
        (pss_cons (ps_set (i := 7) sc_law_right.nd rfl (by first | exact Or.inl rfl | exact Or.inr rfl) (pe_mtX x_room hr (by decide) takes0 (pv 2) (pa_cons (pv 5) pa_nil)))
        (pss_one (ps_if (PW.pt (pw_or (pt_not (pt_val (pe_c c_law_is_number hr (by decide) rfl (pa_cons (pv 7) (pa_cons (pv 6) (pa_cons (pv 6) pa_nil)))))) (pw_or1 (pt_cmpR op_ne (pe_inX x_in hr (by decide) takes0 (pv 5) (pv 2)) (pe_cmpR (inK K rfl) (pv 6) (pe_ix (ixK K rfl) (pv 1) pe_int (fun _ _ => rfl)) rfl) (nomark _))))) (pss_one (ps_ret pe_bl)) pss_nil)))))
        (pss_one (ps_ret pe_bl)))))), ?_⟩
    walk_at "go"
    have hp0 := hp
    obtain ⟨hpZ, dx, pm, pg, hp1, hp2, hp3⟩ := hp
    obtain ⟨hqZ, qm, qg, hq1, hq2, hq3⟩ := hq
    obtain ⟨_, tq, as, hq4, hq5⟩ := id hq2
    obtain ⟨_, tg, hq6⟩ := id hq3
    have hlen : (as.map V.ref).length = rs.length := by rw [List.length_map, hq5.length]
    have hle := hw.le
    refine i_ixT hq1 (i := 0) (v := .ref qm) rfl ?_
    refine seq_lc hq4 (fun D hD => ⟨fun j H3 => Same H H3 ∧ ∃ bs, H3 D = some (.lst (bs.map V.ref)) ∧ Paired (fun a r => IntsT (fun _ => False) H3 a r) bs (rs.take j), ⟨same_laid hD, [], upd_same, by simp; exact .nil⟩, fun j H3 _ ⟨e, _⟩ => e _ _ hq4, fun j v H3 hvj hp3' => ?_, fun H3 hp3' => ?_⟩)
    · obtain ⟨s3, bs, hD3, hbs⟩ := hp3'
      obtain ⟨a, hva, rfl⟩ := at_map hvj
      obtain ⟨rw', hrw, hia1, ti, hia2⟩ := Paired.at0 hq5 hva
      have hj : j < rs.length := (List.getElem?_eq_some_iff.mp hrw).1
      walk_at "go"
      refine i_tupleOf (s3 _ _ hia2) (fun l H4 h1 h2 h3 => ?_)
      have hDl : l ≠ D := fun e => by
        rcases h3 with h3 | ⟨h3, _⟩
        · rw [e, hD3] at h3; cases h3
        · rw [← e, h3, hia2] at hD; cases hD
      refine ⟨_, h2 _ _ hD3, szlt (by rw [List.length_map, hbs.length, List.length_take]; omega), Same.put (s3.trans h2) hD, bs ++ [l], by rw [upd_same, List.map_append]; rfl, ?_⟩
      rw [take_at hrw]
      have hk : Kp (fun b => b = D) H3 (upd H4 D (.lst (bs.map V.ref ++ [V.ref l]))) := fun b o n e => by
        rw [upd_ne n]
        exact h2 _ _ e
      refine U.Paired.snoc (Paired.mapP hbs fun b r z => ⟨z.1, ?_⟩) ⟨fun z => z, by rw [upd_ne hDl]; exact h1⟩
      refine hk _ _ (fun e => ?_) z.2
      have := z.2
      rw [e, hD3] at this
      cases this
    obtain ⟨s3, bs, hD3, hbs⟩ := hp3'
    rw [hlen, List.take_length] at hbs
    walk_at "go"
    refine i_tupleOfL hD3 (fun l hl4 => ?_)
    have s1 : Same H (upd H3 l (.tup (bs.map V.ref))) := s3.trans (same_laid hl4)
    have hrl : RowsT (fun _ => False) (upd H3 l (.tup (bs.map V.ref))) l rs := ⟨fun z => z, bs, upd_same, Paired.mapP hbs fun b r z => z.same (same_laid hl4)⟩
    have hbl : (bs.map V.ref).length = rs.length := by rw [List.length_map, hbs.length]
    have hl1 : (upd H3 l (.tup (bs.map V.ref))) l = some (.tup (bs.map V.ref)) := upd_same
    generalize upd H3 l (.tup (bs.map V.ref)) = H1 at *
    walk_at "go"
    refine ⟨Z, pr, al, rs, gd, rfl, hp0.same s1, ha, hw, hg, fun H4 s4 => ?_⟩
    have s14 := s1.trans s4
    walk_at "go"
    refine i_fldR (s14 _ _ hp1) T.cl T.nM (flds_mo al pm pg) ?_
    walk_at "go"
    refine i_neRows (hp2.same s14) (hrl.same s4) ?_
    walk_at "go"
    refine ite_ndf rfl ?_
    walk_at "go"
    refine i_fldR (s14 _ _ hp1) T.cl T.nG (flds_go al pm pg) ?_
    walk_at "go"
    refine i_ixT (s14 _ _ hq1) (i := 1) (v := .ref qg) rfl ?_
    walk_at "go"
    refine i_tupleOf (s14 _ _ hq6) (fun l2 H5 h1 h2 h3 => ?_)
    have hgl : IntsT (fun _ => False) H5 l2 gd := ⟨fun z => z, h1⟩
    have s05 := s14.trans h2
    refine i_neInts (hp3.same s05) hgl ?_
    walk_at "go"
    refine ite_ndf rfl ?_
    walk_at "go"
    refine ⟨pr, dx, _, rfl, s05 _ _ hp1, Z, pr, al, rs, gd, rfl, hp0.same s05, rs.length, rfl, szl (by omega), ?_⟩
    walk_at "go"
    refine i_lenT (h2 _ _ (s4 _ _ hl1)) ?_
    rw [hbl]
    walk_at "go"
    refine i_lenT (h2 _ _ (s4 _ _ hl1)) ?_
    rw [hbl]
    walk_at "go"
    refine ⟨_, _, _, rfl, Int.le_refl _, Int.le_refl _, ?_⟩
    walk_at "go"
    have hT5 := s05 _ _ hT
    have hl5 := h2 _ _ (s4 _ _ hl1)
    refine seq_for (t := false) hT5 (fun i σ H6 => ∃ x5 x6 x7 : Option V, σ = [some (.str (SX.S al)), some (.ref p), some (.ref pr), some (.ref pT), some (.ref l), x5, x6, x7, none] ∧ Same H5 H6) ⟨none, none, none, rfl, Same.refl _⟩ (fun i σ H6 _ ⟨_, _, _, _, e⟩ => e _ _ hT5) (fun i v σ H6 hv hq => ?_) (fun σ H6 hq => ?_)
    · obtain ⟨x5, x6, x7, rfl, s6⟩ := hq
      obtain ⟨z, hzi, rfl⟩ := at_map hv
      obtain ⟨w, hzw, hz40⟩ := hz z (List.mem_of_getElem? hzi)
      have s06 := s05.trans s6
      walk_at "go"
      refine ⟨fun _ => False, al, l, rs, w, z, rfl, ((hrl.same s4).same h2).rows.same s6, ha, hw, hzw, ?_⟩
      walk_at "go"
      refine ⟨pr, dx, _, rfl, s06 _ _ hp1, flds_room .., ?_⟩
      walk_at "go"
      have hf : ∀ i, faultV al 40 (.str (SX.S z)) ≠ some i := fun i h => by rw [word_fault hzw hz40] at h; cases h
      refine ⟨Z, pr, al, rs, gd, .str (SX.S z), _, rfl, hp0.same s06, ha, hw, .str _, word_str (by omega), fun z' w' e hzw' _ H7 s7 => ?_, fun i h => absurd h (hf i)⟩
      have ez := SX_inj (V.str.inj e)
      subst ez
      have ew := word_uniq ha.nd hzw hzw'
      subst ew
      have s07 := s06.trans s7
      walk_at "go"
      refine ⟨_, _, _, rfl, Int.le_refl _, Int.le_refl _, ?_⟩
      walk_at "go"
      refine ⟨pr, dx, _, rfl, s07 _ _ hp1, Z, pr, al, rs, gd, .str (SX.S z), _, rfl, hp0.same s07, ha, hw, .str _, word_str (by omega), fun z' w' e hzw' _ H8 s8 => ?_, fun i h => absurd h (hf i)⟩
      have ez := SX_inj (V.str.inj e)
      subst ez
      have ew := word_uniq ha.nd hzw hzw'
      subst ew
      have s08 := s07.trans s8
      refine ⟨_, rfl, ?_⟩
      walk_at "go"
      refine i_ixT (s08 _ _ hq1) (i := 1) (v := .ref qg) rfl ?_
      walk_at "go"
      refine i_inI (s08 _ _ hq6) ?_
      walk_at "go"
      refine ite_ndf rfl ?_
      walk_at "go"
      exact ⟨_, _, _, rfl, (s6.trans s7).trans s8⟩
    · obtain ⟨x5, x6, x7, rfl, s6⟩ := hq
      walk_at "go"
      exact k _ (s05.trans s6)
end
abbrev s_law_ends : Stmt := top 59
theorem sc_law_ends : FnScope ["alphabet", "row", "every", "none", "letter"] ["alphabet"] (fnScope s_law_ends) := ⟨rfl, rfl, rfl, by decide +kernel, rfl, by decide +kernel, by decide +kernel⟩
def sp_law_ends (K : PySem.W.Frag) (C : Addr) (r : Er) : Sp := fun vs H Q _ => ∃ (al : List Nat), vs = [.str (SX.S al)] ∧ AlOk al ∧ ∀ H', Same H H' → Q (.bl true) H'
section
variable {P : Program} {w : World} {K : PySem.W.Frag} {mg : Str → Option Value} {base : Heap} {C : Addr} {r : Er}
set_option maxHeartbeats 4000000 in
theorem ok_law_ends {f : Addr} {fd : FuncData} (F : Def K mg "_law_ends" s_law_ends f fd) (T : Txt K mg C r) (b : Binds K fd ["alphabet"] []) (c_law_is_reader : Cal P w K mg base 2 "_law_is_reader" (sp_law_is_reader C) []) (s_full : StX P w K mg base 7 "Reader" C "full" (sp_Reader_full C r)) (s_bare : StX P w K mg base 7 "Reader" C "bare" (sp_Reader_bare C r)) : Cal P w K mg base 9 "_law_ends" (sp_law_ends K C r) [] := by
  refine cal0 F b .nil sc_law_ends (fun vs H Q E h => ?_) (fun cdv A outer s H vs Q E hr h => ?_)
  · obtain ⟨_, rfl, _⟩ := h
    rfl
  · obtain ⟨al, rfl, ha, k⟩ := h
    refine ⟨_, (pss_cons (ps_set (i := 1) sc_law_ends.nd rfl (by first | exact Or.inl rfl | exact Or.inr rfl) (pe_tup (pa_cons (pe_callTy (tupleK K rfl) (by rfl) T.b_tuple (by decide +kernel) (pa_cons (pe_lc (own := [("letter", 4)]) rfl sc_law_ends.nd (pi_str (pv 0)) (blkOk_by (by kernel_rfl)) (fun _ _ _ _ _ => (pg_name (i := 4) sc_law_ends.nd rfl (by first | exact Or.inl rfl | exact Or.inr rfl))) (fun _ _ _ _ _ => pts_nil) (fun _ _ _ _ _ => pe_int)) pa_nil)) pa_nil)))
        (pss_cons (ps_set (i := 2) sc_law_ends.nd rfl (by first | exact Or.inl rfl | exact Or.inr rfl) (pe_stX s_full hr (by decide) takes0 rfl (pa_cons (pv 0) pa_nil)))
        (pss_cons (ps_set (i := 3) sc_law_ends.nd rfl (by first | exact Or.inl rfl | exact Or.inr rfl) (pe_stX s_bare hr (by decide) takes0 rfl (pa_cons (pv 0) pa_nil)))
        (pss_cons (ps_if (PW.pt (pw_or (pt_not (pt_val (pe_c c_law_is_reader hr (by decide) rfl (pa_cons (pv 2) (pa_cons (pv 0) pa_nil))))) (pw_or1 (pt_not (pt_val (pe_c c_law_is_reader hr (by decide) rfl (pa_cons (pv 3) (pa_cons (pv 0) pa_nil)))))))) (pss_one (ps_ret pe_bl)) pss_nil)
        (pss_one (ps_ret (pe_and (pe_cmpR (eqDK K rfl hr.units) (fldK K rfl (pv 2) rfl) (pv 1) (nomark _)) (pe_and (pe_cmpR (eqDK K rfl hr.units) (fldK K rfl (pv 2) rfl) (pe_tup (pa_cons pe_int pa_nil)) (nomark _)) (pe_and (pe_cmpR (eqDK K rfl hr.units) (fldK K rfl (pv 3) rfl) (pv 1) (nomark _)) (pe_one (pe_cmpR (eqDK K rfl hr.units) (fldK K rfl (pv 3) rfl) (pe_tup pa_nil) (nomark _)))))))))))), ?_⟩
    have h1 := ha.pos
    have h3 := ha.le
    have hl : (SX.S al).length = al.length := SX.S_len al
    have hcs : (SX.S al).cps.size = al.length := hl
    walk_at "go"
    intro D hD
    refine str_lc (fun i H' => i ≤ al.length ∧ H' = upd H D (.lst (List.replicate i (.int 0)))) ⟨Nat.zero_le _, rfl⟩ (fun i c H' hc z => ?_) (fun H' z => ?_)
    · obtain ⟨_, rfl⟩ := z
      have hi' : i < al.length := by
        have z : al.toArray[i]? = some c := hc
        rw [List.getElem?_toArray] at z
        exact (List.getElem?_eq_some_iff.mp z).1
      walk_at "go"
      exact ⟨_, upd_same, szlt (by rw [List.length_replicate]; omega), hi', upd_lst (rep_snoc i (V.int 0))⟩
    obtain ⟨_, rfl⟩ := z
    rw [hcs]
    walk_at "go"
    refine i_tupleOfL upd_same (fun TT hTT => ?_)
    walk_at "go"
    refine ⟨sz1, fun M hM => ?_⟩
    have s2 : Same H (upd (upd H D (.lst (List.replicate al.length (.int 0)))) TT (.tup (List.replicate al.length (.int 0)))) := (same_laid hD).trans (same_laid hTT)
    have s3 := s2.trans (same_laid (o := .tup [.ref TT]) hM)
    have hT4 : (upd (upd (upd H D (.lst (List.replicate al.length (.int 0)))) TT (.tup (List.replicate al.length (.int 0)))) M (.tup [.ref TT])) TT = some (.tup (List.replicate al.length (.int 0))) := by
      rw [upd_ne (ne_of_none upd_same hM), upd_same]
    have hM4 : (upd (upd (upd H D (.lst (List.replicate al.length (.int 0)))) TT (.tup (List.replicate al.length (.int 0)))) M (.tup [.ref TT])) M = some (.tup [.ref TT]) := upd_same
    generalize upd (upd (upd H D (.lst (List.replicate al.length (.int 0)))) TT (.tup (List.replicate al.length (.int 0)))) M (.tup [.ref TT]) = H1 at *
    have e0 : (List.replicate al.length (V.int 0)) = (List.replicate al.length 0).map vn := by rw [List.map_replicate]; rfl
    have hrow : RowsT (fun _ => False) H1 M (row0 al.length) := ⟨fun z => z, [TT], hM4, .cons ⟨fun z => z, by rw [hT4, e0]⟩ .nil⟩
    walk_at "go"
    have hb : ∀ {y : V}, y = .str (SX.S al) → alB y = false → False := fun e h => by rw [e, ha.alB] at h; cases h
    refine ⟨.str (SX.S al), _, rfl, .str _, word_str (by omega), fun al' e ha' pe H2 s4 hpe hre => ?_, fun h => (hb rfl h).elim⟩
    have ez := SX_inj (V.str.inj e)
    subst ez
    walk_at "go"
    refine ⟨.str (SX.S al), _, rfl, .str _, word_str (by omega), fun al' e ha' pn H3 s5 hpn hrn => ?_, fun h => (hb rfl h).elim⟩
    have ez := SX_inj (V.str.inj e)
    subst ez
    have s35 := s4.trans s5
    have hre := hre.same s5
    have hr0 := row0_wf ha
    have g1 : GOK (row0 al.length).length [0] := ⟨List.pairwise_singleton _ _, fun z hz => by rw [List.mem_singleton.mp hz]; show 0 < 1; decide⟩
    have g0 : GOK (row0 al.length).length [] := ⟨List.Pairwise.nil, fun z hz => by cases hz⟩
    walk_at "go"
    refine ⟨_, pe, al, _, _, rfl, hre, ha, hr0, g1, fun H4 s6 => ?_⟩
    walk_at "go"
    refine ⟨_, pn, al, _, _, rfl, hrn.same s6, ha, hr0, g0, fun H5 s7 => ?_⟩
    have hre5 := (hre.same s6).same s7
    have hrn5 := (hrn.same s6).same s7
    have s67 := s6.trans s7
    have hrow5 := (hrow.same s35).same s67
    obtain ⟨_, dx, pm, pg, hp1, hp2, hp3⟩ := hre5
    obtain ⟨_, dy, nm, ng, hn1, hn2, hn3⟩ := hrn5
    walk_at "go"
    refine i_fldR hp1 T.cl T.nM (flds_mo al pm pg) ?_
    walk_at "go"
    refine i_eqRows hp2 hrow5 ?_
    walk_at "go"
    refine ite_dt rfl ?_
    walk_at "go"
    refine i_fldR hp1 T.cl T.nG (flds_go al pm pg) ?_
    walk_at "go"
    refine ⟨sz1, fun A hA => ?_⟩
    have s8 : Same H5 (upd H5 A (.tup [.int 0])) := same_laid hA
    refine i_eqInts (hp3.same s8) (T' := fun _ => False) (b := [0]) ⟨fun z => z, upd_same⟩ ?_
    walk_at "go"
    refine ite_dt rfl ?_
    walk_at "go"
    refine i_fldR (s8 _ _ hn1) T.cl T.nM (flds_mo al nm ng) ?_
    walk_at "go"
    refine i_eqRows (hn2.same s8) (hrow5.same s8) ?_
    walk_at "go"
    refine ite_dt rfl ?_
    walk_at "go"
    refine i_fldR (s8 _ _ hn1) T.cl T.nG (flds_go al nm ng) ?_
    walk_at "go"
    refine ⟨szl (by show 0 ≤ 16777216; decide), fun B hB => ?_⟩
    have s9 := s8.trans (same_laid (o := .tup []) hB)
    refine i_eqInts (hn3.same s9) (T' := fun _ => False) (b := []) ⟨fun z => z, upd_same⟩ ?_
    rw [decide_eq_true rfl]
    exact k _ (((s3.trans s35).trans s67).trans s9)
end
abbrev s_law_equal : Stmt := top 58
theorem sc_law_equal : FnScope ["alphabet", "told", "reader", "source", "moves", "size", "again", "at", "turned", "others", "rows", "t", "other", "row", "p"] ["alphabet", "told", "reader", "source"] (fnScope s_law_equal) := ⟨rfl, rfl, rfl, by decide +kernel, rfl, by decide +kernel, by decide +kernel⟩
theorem mk_good {C : Addr} {r : Er} {H : Hp} {q : Hp → Prop} {E : XK} {x dx m g : Addr} {Z : AS} {al : List Nat} {rs : Rws} {gd : List Nat} (ha : AlOk al) (hT : TO Z H) (hm : Rows Z H m rs) (hw : WF al.length rs) (hg : Ints Z H g gd) (hk : GOK rs.length gd) (hx : H x = none) (hdx : H dx = none) (hne : dx ≠ x)
    (k : ∀ H', Same H H' → Rd C Z H' x al rs gd → q H') : sp_Readerd_initd C r [.ref x, .str (SX.S al), .ref m, .ref g] (upd (upd H dx (.own x)) x (.ins C dx [])) (fun v H2 => v = .non ∧ q H2) E := by
  have s : Same H (upd (upd H dx (.own x)) x (.ins C dx [])) := (same_laid hdx).trans (same_laid (by rw [upd_ne hne.symm]; exact hx))
  exact ⟨x, dx, _, _, _, rfl, upd_same, .inr ⟨al, rfl, ha, .inr ⟨Z, m, rs, rfl, hT.same s, hm.same s, hw, .inr ⟨g, gd, rfl, hg.same s, hk, fun H' pm pg kk e1 e2 e3 => ⟨rfl, k H' (made_same hx hdx kk) ⟨fun z => Old.none hx (hT x z), dx, pm, pg, e1, e2, e3⟩⟩⟩⟩⟩⟩
section
variable {K : PySem.W.Frag} {C : Addr} {E : XK} {Z Z' : AS} {H : Hp} {p q : Addr} {al bl : List Nat} {rs rs' : Rws} {gd gd' : List Nat} {Q : VK}
theorem own_eqR (hp : U.Rd C Z H p al rs gd) (hq : U.Rd C Z' H q bl rs' gd') (h1 : rs.length ≤ 60) (h2 : rs'.length ≤ 60) (k : Q (.bl (decide (al = bl ∧ rs = rs' ∧ gd = gd'))) H) : rOwnEqX K C (sp_Readerd_eqd K C) E (.ref p) (.ref q) H Q := by
  obtain ⟨_, dx, pm, pg, a1, _, _⟩ := id hp
  obtain ⟨_, dy, qm, qg, b1, _, _⟩ := id hq
  exact ⟨p, dx, _, rfl, a1, .inl ⟨q, dy, _, rfl, b1⟩, Z, p, al, rs, gd, .ref q, rfl, hp, h1, .inl ⟨Z', q, bl, rs', gd', rfl, hq, h2, _, rfl, k⟩⟩
theorem own_neR (hp : U.Rd C Z H p al rs gd) (hq : U.Rd C Z' H q bl rs' gd') (h1 : rs.length ≤ 60) (h2 : rs'.length ≤ 60) (k : Q (.bl (!decide (al = bl ∧ rs = rs' ∧ gd = gd'))) H) : rOwnNe C (sp_Readerd_eqd K C) E (.ref p) (.ref q) H Q := by
  obtain ⟨_, dx, pm, pg, a1, _, _⟩ := id hp
  obtain ⟨_, dy, qm, qg, b1, _, _⟩ := id hq
  exact ⟨p, dx, _, q, dy, _, rfl, rfl, a1, b1, Z, p, al, rs, gd, .ref q, rfl, hp, h1, .inl ⟨Z', q, bl, rs', gd', rfl, hq, h2, _, rfl, k⟩⟩
theorem own_eqN {y : V} {tn : String} (hp : U.Rd C Z H p al rs gd) (h1 : rs.length ≤ 60) (ty : Thg H y tn) (hs : PySem.W.subIn K (.type tn) (.ref C) = some false) (hk : PySem.W.kitOne K (.type tn) (.ref C) = some false) (k : Q (.bl false) H) : rOwnEqX K C (sp_Readerd_eqd K C) E (.ref p) y H Q := by
  obtain ⟨_, dx, pm, pg, a1, _, _⟩ := id hp
  exact ⟨p, dx, _, rfl, a1, .inr ⟨tn, ty.ty, hs⟩, Z, p, al, rs, gd, y, rfl, hp, h1, .inr ⟨tn, ty.ty, hk, _, rfl, k⟩⟩
end
theorem al2_ok {al : List Nat} (h : al ∈ alMenu) : ∃ al', AlOk al' ∧ al'.length = al.length ∧ al' ≠ al ∧ atI ([.str "z", .str "bc", .str "abd"] : List V) ((al.length : Int) - 1) = some (.str (SX.S al')) := by
  have kz : AlOk [122] := ⟨by decide, by decide, by decide, by decide⟩
  have kb : AlOk [98, 99] := ⟨by decide, by decide, by decide, by decide⟩
  have kd : AlOk [97, 98, 100] := ⟨by decide, by decide, by decide, by decide⟩
  simp only [alMenu, List.mem_cons, List.not_mem_nil, or_false] at h
  rcases h with rfl | rfl | rfl | rfl | rfl | rfl | rfl
  · exact ⟨_, kb, rfl, by decide, rfl⟩
  · exact ⟨_, kb, rfl, by decide, rfl⟩
  · exact ⟨_, kd, rfl, by decide, rfl⟩
  · exact ⟨_, kz, rfl, by decide, rfl⟩
  · exact ⟨_, kd, rfl, by decide, rfl⟩
  · exact ⟨_, kb, rfl, by decide, rfl⟩
  · exact ⟨_, kz, rfl, by decide, rfl⟩
/-- another reader -/
def Oth (C : Addr) (S : AS) (H : Hp) (al : List Nat) (rs : Rws) (gd : List Nat) (b : Addr) : Prop := ∃ bl rs' gd', Rd C S H b bl rs' gd' ∧ rs'.length ≤ 60 ∧ ¬ (al = bl ∧ rs = rs' ∧ gd = gd')
theorem Oth.ev {C : Addr} {S : AS} {H H' : Hp} {al : List Nat} {rs : Rws} {gd : List Nat} {b : Addr} (h : Oth C S H al rs gd b) (e : Ev S H H') : Oth C S H' al rs gd b := let ⟨bl, rs', gd', h1, h2⟩ := h; ⟨bl, rs', gd', h1.ev e, h2⟩
def sp_law_equal (K : PySem.W.Frag) (C : Addr) (r : Er) : Sp := fun vs H Q _ => ∃ (S : AS) (a : Addr) (al : List Nat) (p pr : Addr) (rs : Rws) (gd : List Nat), vs = [.str (SX.S al), .ref p, .ref pr, .ref a] ∧ S a ∧ Srcs S H ∧ Mach S H p rs gd ∧ Rd C S H pr al rs gd ∧ al ∈ alMenu ∧ AlOk al ∧ WF al.length rs ∧ GOK rs.length gd ∧ ∀ H', Ev S H H' → Q (.bl true) H'
section
variable {P : Program} {w : World} {K : PySem.W.Frag} {mg : Str → Option Value} {base : Heap} {C : Addr} {r : Er}
set_option maxHeartbeats 4000000 in
theorem ok_law_equal {f : Addr} {fd : FuncData} (F : Def K mg "_law_equal" s_law_equal f fd) (T : Txt K mg C r) (b : Binds K fd ["alphabet", "told", "reader", "source"] []) (c_law_pick : Cal P w K mg base 1 "_law_pick" sp_law_pick []) (m_Reader : MakX P w K mg base 5 "Reader" C (sp_Readerd_initd C r)) (o_eq : OwnCal P w K mg base 1 C "__eq__" (sp_Readerd_eqd K C)) : Cal P w K mg base 7 "_law_equal" (sp_law_equal K C r) [] := by
  refine cal0 F b .nil sc_law_equal (fun vs H Q E h => ?_) (fun cdv A outer s H vs Q E hr h => ?_)
  · obtain ⟨_, _, _, _, _, _, _, rfl, _⟩ := h
    rfl
  · obtain ⟨S, a, al, p, pr, rs, gd, rfl, hSa, hS, hq, hp, hal, ha, hw, hg, k⟩ := h
    refine ⟨_, (pss_cons (ps_set (i := 4) sc_law_equal.nd rfl (by first | exact Or.inl rfl | exact Or.inr rfl) (pe_callTy (tupleK K rfl) (by rfl) T.b_tuple (by decide +kernel) (pa_cons (pe_lc (own := [("row", 13)]) rfl sc_law_equal.nd (seqK K rfl (pe_ix (ixK K rfl) (pv 1) pe_int (fun _ _ => rfl))) (blkOk_by (by kernel_rfl)) (fun _ _ _ _ _ => (pg_name (i := 13) sc_law_equal.nd rfl (by first | exact Or.inl rfl | exact Or.inr rfl))) (fun _ _ _ _ _ => pts_nil) (fun _ _ _ _ _ => (pe_callTy (tupleK K rfl) (by rfl) T.b_tuple (by decide +kernel) (pa_cons (pv 13) pa_nil)))) pa_nil)))
        (pss_cons (ps_set (i := 5) sc_law_equal.nd rfl (by first | exact Or.inl rfl | exact Or.inr rfl) (pe_callB (lenK K rfl) (by rfl) T.b_len (by decide +kernel) (pa_cons (pv 4) pa_nil)))
        (pss_cons (ps_set (i := 6) sc_law_equal.nd rfl (by first | exact Or.inl rfl | exact Or.inr rfl) (pe_mkX m_Reader hr (by decide) takes0 rfl (pa_cons (pv 0) (pa_cons (pv 4) (pa_cons (pe_callTy (tupleK K rfl) (by rfl) T.b_tuple (by decide +kernel) (pa_cons (pe_ix (ixK K rfl) (pv 1) pe_int (fun _ _ => rfl)) pa_nil)) pa_nil)))))
        (pss_cons (ps_if (PW.pt (pw_or (pt_not (pt_cmpR (ownEqX K rfl o_eq hr (by decide)) (pv 2) (pv 6) (nomark _))) (pw_or (pt_cmpR (ownNe o_eq hr (by decide) T.ne T.mo) (pv 2) (pv 6) (nomark _)) (pw_or1 (pt_not (pt_cmpR (ownEqX K rfl o_eq hr (by decide)) (pv 6) (pv 2) (nomark _))))))) (pss_one (ps_ret pe_bl)) pss_nil)
        (pss_cons (ps_set (i := 7) sc_law_equal.nd rfl (by first | exact Or.inl rfl | exact Or.inr rfl) (pe_c c_law_pick hr (by decide) rfl (pa_cons (pv 3) (pa_cons (pv 5) pa_nil))))
        (pss_cons (ps_setLc (i := 8) (own := [("p", 14)]) rfl sc_law_equal.nd rfl rfl (sw_true rfl rfl rfl (by decide +kernel)) (pi_range1 (by rfl) T.b_range (pa_cons (pv 5) pa_nil)) (blkOk_by (by kernel_rfl)) (fun _ _ _ _ _ => (pg_name (i := 14) sc_law_equal.nd rfl (by first | exact Or.inl rfl | exact Or.inr rfl))) (fun _ _ _ _ _ => (pts_one (pt_cmpR op_ne (pe_cmpR (inK K rfl) (pv 14) (pe_ix (ixK K rfl) (pv 1) pe_int (fun _ _ => rfl)) rfl) (pe_cmpR op_eq (pv 14) (pv 7) (nomark _)) (nomark _)))) (fun _ _ _ _ _ => (pv 14)))
        (pss_cons (ps_set (i := 9) sc_law_equal.nd rfl (by first | exact Or.inl rfl | exact Or.inr rfl) (pe_lst (pa_cons (pe_mkX m_Reader hr (by decide) takes0 rfl (pa_cons (pv 0) (pa_cons (pv 4) (pa_cons (pv 8) pa_nil)))) (pa_cons (pe_mkX m_Reader hr (by decide) takes0 rfl (pa_cons (pe_ix (ixK K rfl) (pe_lst (pa_cons pe_str (pa_cons pe_str (pa_cons pe_str pa_nil)))) (pe_op op_sub (pe_callB (lenK K rfl) (by rfl) T.b_len (by decide +kernel) (pa_cons (pv 0) pa_nil)) pe_int) (fun _ _ => rfl)) (pa_cons (pv 4) (pa_cons (pe_ix (ixK K rfl) (pv 1) pe_int (fun _ _ => rfl)) pa_nil)))) pa_nil))))
        (C8.pss_cut (ps_if (pt_cmpR op_gt (pv 5) pe_int (nomark _)) (pss_cons (ps_setLc (i := 10) (own := [("row", 13)]) rfl sc_law_equal.nd rfl rfl (sw_true rfl rfl rfl (by decide +kernel)) (seqK K rfl (pv 4)) (blkOk_by (by kernel_rfl)) (fun _ _ _ _ _ => (pg_name (i := 13) sc_law_equal.nd rfl (by first | exact Or.inl rfl | exact Or.inr rfl))) (fun _ _ _ _ _ => pts_nil) (fun _ _ _ _ _ => (pe_callTy (listK K rfl) (by rfl) T.b_list (by decide +kernel) (pa_cons (pv 13) pa_nil))))
        (pss_cons (ps_set (i := 11) sc_law_equal.nd rfl (by first | exact Or.inl rfl | exact Or.inr rfl) (pe_c c_law_pick hr (by decide) rfl (pa_cons (pv 3) (pa_cons (pe_callB (lenK K rfl) (by rfl) T.b_len (by decide +kernel) (pa_cons (pv 0) pa_nil)) pa_nil))))
        (pss_cons (ps_asg (pe_op op_mod (pe_callTy int1 (by rfl) T.b_int (by decide +kernel) (pa_cons (pe_op op_add (pe_op op_add (pe_ix (ixK K rfl) (pe_ix (ixK K rfl) (pv 10) (pv 7) (fun _ _ => rfl)) (pv 11) (fun _ _ => rfl)) pe_int) (pe_c c_law_pick hr (by decide) rfl (pa_cons (pv 3) (pa_cons (pe_op op_sub (pv 5) pe_int) pa_nil)))) pa_nil)) (pv 5)) (pg_sub (pe_ix (ixK K rfl) (pv 10) (pv 7) (fun _ _ => rfl)) (pv 11) set_list))
        (pss_one (ps_expr (bmK K rfl (pe_bm PySem.F.plainAttrs_list PySem.F.slot_list_append PySem.F.type_list_append mt_append (pv 9) (pa_cons (pe_mkX m_Reader hr (by decide) takes0 rfl (pa_cons (pv 0) (pa_cons (pv 10) (pa_cons (pe_ix (ixK K rfl) (pv 1) pe_int (fun _ _ => rfl)) pa_nil)))) pa_nil)))))))) pss_nil)
        (pss_cons (ps_for PassesOwn.never rfl (seqK K rfl (pv 9)) (pg_name (i := 12) sc_law_equal.nd rfl (by first | exact Or.inl rfl | exact Or.inr rfl))
        (pss_one (ps_if (PW.pt (pw_or (pt_cmpR (ownEqX K rfl o_eq hr (by decide)) (pv 2) (pv 12) (nomark _)) (pw_or (pt_cmpR (ownEqX K rfl o_eq hr (by decide)) (pv 12) (pv 2) (nomark _)) (pw_or1 (pt_not (pt_cmpR (ownNe o_eq hr (by decide) T.ne T.mo) (pv 2) (pv 12) (nomark _))))))) (pss_one (ps_ret pe_bl)) pss_nil)))
        (pss_one (ps_ret (pe_and (pe_not (pe_cmpR (ownEqX K rfl o_eq hr (by decide)) (pv 2) (pe_tup (pa_cons (pv 0) (pa_cons (pv 4) (pa_cons (pe_callTy (tupleK K rfl) (by rfl) T.b_tuple (by decide +kernel) (pa_cons (pe_ix (ixK K rfl) (pv 1) pe_int (fun _ _ => rfl)) pa_nil)) pa_nil)))) (nomark _))) (pe_one (pe_not (pe_cmpR (ownEqX K rfl o_eq hr (by decide)) (pv 2) (pv 0) (nomark _)))))))))))))))), ?_⟩
    walk_at "go"
    have hp0 := hp
    obtain ⟨hpZ, dx, pm, pg, hp1, hp2, hp3⟩ := hp
    obtain ⟨hqZ, qm, qg, hq1, hq2, hq3⟩ := hq
    obtain ⟨hqmS, tq, as, hq4, hq5⟩ := id hq2
    obtain ⟨hqgS, tg, hq6⟩ := id hq3
    have hlen : (as.map V.ref).length = rs.length := by rw [List.length_map, hq5.length]
    have hle := hw.le
    have hpos := hw.pos
    have h3 := ha.le
    have h1' := ha.pos
    have hl : (SX.S al).length = al.length := SX.S_len al
    refine i_ixT hq1 (i := 0) (v := .ref qm) rfl ?_
    refine seq_lc hq4 (fun D hD => ⟨fun j H3 => Same H H3 ∧ ∃ bs, H3 D = some (.lst (bs.map V.ref)) ∧ Paired (fun a r => IntsT (fun _ => False) H3 a r) bs (rs.take j), ⟨same_laid hD, [], upd_same, by simp; exact .nil⟩, fun j H3 _ ⟨e, _⟩ => e _ _ hq4, fun j v H3 hvj hp3' => ?_, fun H3 hp3' => ?_⟩)
    · obtain ⟨s3, bs, hD3, hbs⟩ := hp3'
      obtain ⟨a, hva, rfl⟩ := at_map hvj
      obtain ⟨rw', hrw, hia1, ti, hia2⟩ := Paired.at0 hq5 hva
      have hj : j < rs.length := (List.getElem?_eq_some_iff.mp hrw).1
      walk_at "go"
      refine i_tupleOf (s3 _ _ hia2) (fun l H4 h1 h2 h3 => ?_)
      have hDl : l ≠ D := fun e => by
        rcases h3 with h3 | ⟨h3, _⟩
        · rw [e, hD3] at h3; cases h3
        · rw [← e, h3, hia2] at hD; cases hD
      refine ⟨_, h2 _ _ hD3, szlt (by rw [List.length_map, hbs.length, List.length_take]; omega), Same.put (s3.trans h2) hD, bs ++ [l], by rw [upd_same, List.map_append]; rfl, ?_⟩
      rw [take_at hrw]
      have hk : Kp (fun b => b = D) H3 (upd H4 D (.lst (bs.map V.ref ++ [V.ref l]))) := fun b o n e => by
        rw [upd_ne n]
        exact h2 _ _ e
      refine U.Paired.snoc (Paired.mapP hbs fun b r z => ⟨z.1, ?_⟩) ⟨fun z => z, by rw [upd_ne hDl]; exact h1⟩
      refine hk _ _ (fun e => ?_) z.2
      have := z.2
      rw [e, hD3] at this
      cases this
    obtain ⟨s3, bs, hD3, hbs⟩ := hp3'
    rw [hlen, List.take_length] at hbs
    walk_at "go"
    refine i_tupleOfL hD3 (fun l hl4 => ?_)
    have s1 : Same H (upd H3 l (.tup (bs.map V.ref))) := s3.trans (same_laid hl4)
    have hrl : RowsT (fun _ => False) (upd H3 l (.tup (bs.map V.ref))) l rs := ⟨fun z => z, bs, upd_same, Paired.mapP hbs fun b r z => z.same (same_laid hl4)⟩
    have hbl : (bs.map V.ref).length = rs.length := by rw [List.length_map, hbs.length]
    have hl1 : (upd H3 l (.tup (bs.map V.ref))) l = some (.tup (bs.map V.ref)) := upd_same
    generalize upd H3 l (.tup (bs.map V.ref)) = H1 at *
    walk_at "go"
    rw [hbl]
    refine i_ixT (s1 _ _ hq1) (i := 1) (v := .ref qg) rfl ?_
    walk_at "go"
    refine i_tupleOf (s1 _ _ hq6) (fun l2 H2 h1 s2 h3' => ?_)
    walk_at "go"
    intro ag dya hya hdya hnea
    refine mk_good (Z := fun _ => False) ha (fun _ z => z.elim) (hrl.same s2).rows hw ⟨fun z => z, true, h1⟩ hg hya hdya hnea (fun H3 s3 hag => ?_)
    have s13 := s2.trans s3
    have s03 := s1.trans s13
    have e03 : Ev S H H3 := .of_same hS s03
    have hl3 := s13 _ _ hl1
    have hrl3 := hrl.same s13
    walk_at "go"
    refine own_eqR (hp0.same s03) hag hle hle ?_
    rw [decide_eq_true (show al = al ∧ rs = rs ∧ gd = gd from ⟨rfl, rfl, rfl⟩)]
    walk_at "go"
    refine own_neR (hp0.same s03) hag hle hle ?_
    rw [decide_eq_true (show al = al ∧ rs = rs ∧ gd = gd from ⟨rfl, rfl, rfl⟩)]
    walk_at "go"
    refine own_eqR hag (hp0.same s03) hle hle ?_
    rw [decide_eq_true (show al = al ∧ rs = rs ∧ gd = gd from ⟨rfl, rfl, rfl⟩)]
    walk_at "go"
    refine ⟨S, a, _, rfl, hSa, e03.src, by omega, by omega, fun d H4 g0 g1 e34 => ?_⟩
    obtain ⟨d, rfl⟩ := Int.eq_ofNat_of_zero_le g0
    have hd : d < rs.length := by omega
    have e04 := e03.trans e34
    have hS4 := e04.src
    have hnl : ¬ S l := e03.src.nottup hl3
    have hl4 := e34.at hnl hl3
    have hrl4 : RowsT S H4 l rs := (hrl3.offL fun b hb => let ⟨x, y, z, e⟩ := e03.src b hb; ⟨_, e⟩).ev e34
    have hq14 := e04.at hqZ hq1
    have hq64 := e04.at hqgS hq6
    walk_at "go"
    refine ⟨by omega, by omega, fun D hD => ?_⟩
    rw [Int.toNat_natCast]
    refine rng0_lc (fun i H5 => i ≤ rs.length ∧ H5 = upd H4 D (.lst (((List.range i).filter fun p => (decide (p ∈ gd) != decide (p = d))).map vn))) ⟨Nat.zero_le _, rfl⟩ (fun i H5 hi hq => ?_) (fun H5 hq => ?_)
    · obtain ⟨_, rfl⟩ := hq
      walk_at "go"
      refine i_ixT (by rw [upd_ne (ne_of_none hq14 hD)]; exact hq14) (i := 1) (v := .ref qg) rfl ?_
      refine i_inI (by rw [upd_ne (ne_of_none hq64 hD)]; exact hq64) ?_
      walk_at "go"
      have hc : (!decide (decide (i ∈ gd) = decide ((i : Int) = (d : Int)))) = (decide (i ∈ gd) != decide (i = d)) := by
        have e : decide ((i : Int) = (d : Int)) = decide (i = d) := by
          by_cases h : i = d
          · subst h; simp
          · rw [decide_eq_false h, decide_eq_false (by omega)]
        rw [e]
        cases decide (i ∈ gd) <;> cases decide (i = d) <;> rfl
      rw [hc]
      have hfl : (((List.range i).filter fun p => (decide (p ∈ gd) != decide (p = d))).map vn).length < 16777216 := by
        rw [List.length_map]
        have := List.length_filter_le (fun p => (decide (p ∈ gd) != decide (p = d))) (List.range i)
        rw [List.length_range] at this
        omega
      refine iteB (fun hb => ?_) (fun hb => ?_)
      · walk_at "go"
        exact ⟨_, upd_same, szlt hfl, hi, upd_lst (by rw [range_filter_t (f := fun p => (decide (p ∈ gd) != decide (p = d))) hb, List.map_append]; rfl)⟩
      · exact ⟨hi, by rw [range_filter_f (f := fun p => (decide (p ∈ gd) != decide (p = d))) hb]⟩
    obtain ⟨_, rfl⟩ := hq
    have hng : gd ≠ ((List.range rs.length).filter fun p => (decide (p ∈ gd) != decide (p = d))) := fun e => by
      have h1 : d ∈ gd ↔ d ∈ ((List.range rs.length).filter fun p => (decide (p ∈ gd) != decide (p = d))) := by rw [← e]
      rw [List.mem_filter, List.mem_range] at h1
      by_cases hdg : d ∈ gd
      · have := (h1.mp hdg).2
        simp [hdg] at this
      · exact hdg (h1.mpr ⟨hd, by simp [hdg]⟩)
    have hgn : GOK rs.length ((List.range rs.length).filter fun p => (decide (p ∈ gd) != decide (p = d))) := GOK.filter _
    generalize ((List.range rs.length).filter fun p => (decide (p ∈ gd) != decide (p = d))) = gn at *
    have e45 : Ev S H4 (upd H4 D (.lst (gn.map vn))) := .laid hS4 hD
    have hD5 : (upd H4 D (.lst (gn.map vn))) D = some (.lst (gn.map vn)) := upd_same
    have hDS : ¬ S D := hS4.notin hD
    generalize upd H4 D (.lst (gn.map vn)) = H5 at *
    have hS5 := e45.src
    have hrl5 := hrl4.ev e45
    walk_at "go"
    intro y dy hy hdy hne
    refine mk_good (Z := S) ha hS5.to hrl5.rows hw ⟨hDS, false, hD5⟩ hgn hy hdy hne (fun H6 s6 hr1 => ?_)
    have e56 := Ev.of_same hS5 s6
    have e46 := e45.trans e56
    obtain ⟨al', ha', hal', hne', hat⟩ := al2_ok hal
    walk_at "go"
    refine ⟨sz3, fun L0 hL0 => ?_⟩
    have e67 : Ev S H6 (upd H6 L0 (.lst [.str "z", .str "bc", .str "abd"])) := .laid e56.src hL0
    have hL07 : (upd H6 L0 (.lst [.str "z", .str "bc", .str "abd"])) L0 = some (.lst [.str "z", .str "bc", .str "abd"]) := upd_same
    generalize upd H6 L0 (.lst [.str "z", .str "bc", .str "abd"]) = H7 at *
    walk_at "go"
    refine i_lenS (szl (by omega)) ?_
    walk_at "go"
    rw [hl]
    refine i_ixL hL07 hat ?_
    have e47 := e46.trans e67
    have hq17 := e47.at hqZ hq14
    have hq67 := e47.at hqgS hq64
    walk_at "go"
    intro y2 dy2 hy2 hdy2 hne2
    have hrl7 := hrl4.ev e47
    refine mk_good (Z := S) ha' e67.src.to hrl7.rows (by rw [hal']; exact hw) ⟨hqgS, tg, hq67⟩ hg hy2 hdy2 hne2 (fun H8 s8 hr2 => ?_)
    have e78 := Ev.of_same e67.src s8
    walk_at "go"
    refine ⟨sz2, fun L hL => ?_⟩
    have e89 : Ev S H8 (upd H8 L (.lst [.ref y, .ref y2])) := .laid e78.src hL
    have hL9 : (upd H8 L (.lst [.ref y, .ref y2])) L = some (.lst (([y, y2] : List Addr).map V.ref)) := upd_same
    have e49 := (e47.trans e78).trans e89
    have o1 : Oth C S (upd H8 L (.lst [.ref y, .ref y2])) al rs gd y := ⟨al, rs, gn, ((hr1.ev e67).ev e78).ev e89, hle, fun z => hng z.2.2⟩
    have o2 : Oth C S (upd H8 L (.lst [.ref y, .ref y2])) al rs gd y2 := ⟨al', rs, gd, hr2.ev e89, hle, fun z => hne' z.1.symm⟩
    have hLn : H4 L = none := (e47.trans e78).free hL
    have hLS : ¬ S L := hS4.notin hLn
    generalize upd H8 L (.lst [.ref y, .ref y2]) = H9 at *
    walk_at "go"
    refine i_cut (fun σ H10 => ∃ (x10 x11 : Option V) (ls : List Addr), σ = [some (.str (SX.S al)), some (.ref p), some (.ref pr), some (.ref a), some (.ref l), some (vn rs.length), some (.ref ag), some (vn d), some (.ref D), some (.ref L), x10, x11, none, none, none] ∧ Ev S H4 H10 ∧ H10 L = some (.lst (ls.map V.ref)) ∧ ∀ b ∈ ls, Oth C S H10 al rs gd b) ?_ (fun σ H10 hq => ?_)
    · walk_at "go"
      refine iteD (fun hx => ?_) (fun hx => ?_)
      rotate_left
      · walk_at "go"
        refine ⟨_, _, [y, y2], rfl, e49, hL9, fun b hb => ?_⟩
        rcases List.mem_cons.mp hb with rfl | hb
        · exact o1
        · rw [List.mem_singleton.mp hb]
          exact o2
      have hx2 : 1 < rs.length := by have : (1 : Int) < _ := hx; omega
      obtain ⟨_, asl, hl9, hrl9⟩ := hrl4.ev e49
      have hS9 := e49.src
      have hlen9 : (asl.map V.ref).length = rs.length := by rw [List.length_map, hrl9.length]
      walk_at "go"
      refine seq_lc (t := true) hl9 (fun D2 hD2 => ⟨fun j H3 => Same H9 H3 ∧ ∃ bs, H3 D2 = some (.lst (bs.map V.ref)) ∧ Paired (fun a r => H9 a = none ∧ a ≠ D2 ∧ H3 a = some (.lst (r.map vn))) bs (rs.take j) ∧ bs.Nodup, ⟨same_laid hD2, [], upd_same, by simp; exact .nil, List.nodup_nil⟩, fun j H3 _ ⟨e, _⟩ => e _ _ hl9, fun j v H3 hvj hq => ?_, fun H3 hq => ?_⟩)
      · obtain ⟨s3, bs, hD3, hbs, hnd⟩ := hq
        obtain ⟨b, hvb, rfl⟩ := at_map hvj
        obtain ⟨rw', hrw, hia1, hia2⟩ := Paired.at0 hrl9 hvb
        have hj : j < rs.length := (List.getElem?_eq_some_iff.mp hrw).1
        walk_at "go"
        refine i_listOf (t := true) (s3 _ _ hia2) (fun l hl => ?_)
        have hlD : l ≠ D2 := (ne_of_none hD3 hl).symm
        refine ⟨bs.map V.ref, by rw [upd_ne hlD.symm]; exact hD3, szlt (by rw [List.length_map, hbs.length, List.length_take]; omega), Same.put (s3.trans (same_laid hl)) hD2, bs ++ [l], by rw [upd_same, List.map_append]; rfl, ?_, ?_⟩
        · rw [take_at hrw]
          refine U.Paired.snoc (Paired.mapP hbs fun b r z => ⟨z.1, z.2.1, ?_⟩) ⟨same_free s3 hl, hlD, by rw [upd_ne hlD, upd_same]⟩
          rw [upd_ne z.2.1, upd_ne (ne_of_none z.2.2 hl)]
          exact z.2.2
        · rw [List.nodup_append]
          refine ⟨hnd, by simp, fun x hx y hy e => ?_⟩
          rw [List.mem_singleton.mp hy] at e
          obtain ⟨q, hq⟩ := List.mem_iff_getElem?.mp hx
          obtain ⟨r', _, _, _, hz⟩ := Paired.at0 hbs hq
          rw [e, hl] at hz
          cases hz
      obtain ⟨s3, bs, hD3, hbs, hnd⟩ := hq
      rw [hlen9, List.take_length] at hbs
      have e3 : Ev S H9 H3 := .of_same hS9 s3
      have hD2S : ¬ S D2 := hS9.notin hD2
      have hD2L : L ≠ D2 := ne_of_none hL9 hD2
      obtain ⟨b, hb1⟩ : ∃ b, bs[d]? = some b := ⟨_, List.getElem?_eq_getElem (by rw [hbs.length]; exact hd)⟩
      obtain ⟨rw', hrw, hbF, hbD, hb3⟩ := Paired.at0 hbs hb1
      have hbS := hS9.notin hbF
      have hmemrw := List.mem_of_getElem? hrw
      have hwl := hw.wid _ hmemrw
      walk_at "go"
      refine i_lenS (szl (by omega)) ?_
      walk_at "go"
      rw [hl]
      refine ⟨S, a, _, rfl, hSa, e3.src, by omega, by omega, fun x H10 g4 g5 e4 => ?_⟩
      obtain ⟨t, rfl⟩ := Int.eq_ofNat_of_zero_le g4
      have ht : t < rw'.length := by omega
      have hb4 := e4.at hbS hb3
      have hD4 := e4.at hD2S hD3
      obtain ⟨u, hu⟩ : ∃ u, rw'[t]? = some u := ⟨_, List.getElem?_eq_getElem ht⟩
      have hul : u < rs.length := hw.lt _ hmemrw u (List.mem_of_getElem? hu)
      walk_at "go"
      refine i_ixL hD4 (v := .ref b) (atI_nat (map_at hb1)) ?_
      walk_at "go"
      refine i_ixL hb4 (v := vn u) (vn_at hu) ?_
      walk_at "go"
      refine ⟨S, a, _, rfl, hSa, e4.src, by omega, by omega, fun x H11 g6 g7 e5 => ?_⟩
      obtain ⟨x, rfl⟩ := Int.eq_ofNat_of_zero_le g6
      walk_at "go"
      have hD5 := e5.at hD2S hD4
      have hb5 := e5.at hbS hb4
      refine i_ixL hD5 (v := .ref b) (atI_nat (map_at hb1)) ?_
      walk_at "go"
      have hmod : ((u : Int) + 1 + (x : Int)) % (rs.length : Int) = (((u + 1 + x) % rs.length : Nat) : Int) := by norm_cast
      rw [hmod]
      have hvl : (u + 1 + x) % rs.length < rs.length := Nat.mod_lt _ (by omega)
      have hvu : (u + 1 + x) % rs.length ≠ u := by
        by_cases hlt : u + 1 + x < rs.length
        · rw [Nat.mod_eq_of_lt hlt]
          omega
        · rw [Nat.mod_eq_sub_mod (by omega), Nat.mod_eq_of_lt (by omega)]
          omega
      generalize (u + 1 + x) % rs.length = v at *
      refine i_setL hb5 (ixN_nat (by rw [List.length_map]; exact ht)) ?_
      have hset : (rw'.map vn).set t (.int (v : Int)) = (rw'.set t v).map vn := (List.map_set).symm
      rw [hset]
      have e45' := e4.trans e5
      have e6 : Ev S H9 (upd H11 b (.lst ((rw'.set t v).map vn))) := Ev.put hS9 (e3.trans e45') hbF
      have hD6 : (upd H11 b (.lst ((rw'.set t v).map vn))) D2 = some (.lst (bs.map V.ref)) := by rw [upd_ne hbD.symm]; exact hD5
      have hrows : Paired (fun a r => Ints S (upd H11 b (.lst ((rw'.set t v).map vn))) a r) bs (rs.set d (rw'.set t v)) := by
        refine paired_of (by rw [List.length_set, hbs.length]) fun i c r hc hr => ?_
        by_cases hid : i = d
        · subst hid
          rw [hb1] at hc
          cases hc
          rw [List.getElem?_set_self hd] at hr
          cases hr
          exact ⟨hbS, false, upd_same⟩
        · rw [List.getElem?_set_ne (fun e => hid e.symm)] at hr
          obtain ⟨r', hr', h1, h2, h3⟩ := Paired.at0 hbs hc
          rw [hr] at hr'
          cases hr'
          have hcb : c ≠ b := fun e => by
            obtain ⟨hi1, hi2⟩ := List.getElem?_eq_some_iff.mp hc
            obtain ⟨hi3, hi4⟩ := List.getElem?_eq_some_iff.mp hb1
            have pw := List.pairwise_iff_getElem.mp hnd
            rcases Nat.lt_or_gt_of_ne hid with z | z
            · exact pw i d hi1 hi3 z (by rw [hi2, hi4, e])
            · exact pw d i hi3 hi1 z (by rw [hi2, hi4, e])
          exact ⟨hS9.notin h1, false, by rw [upd_ne hcb]; exact e45'.at (hS9.notin h1) h3⟩
      have hbL : L ≠ b := ne_of_none hL9 hbF
      generalize hH6 : upd H11 b (.lst ((rw'.set t v).map vn)) = H12 at *
      have hS12 := e6.src
      have e412 := e49.trans e6
      have hq112 := e412.at hqZ hq14
      have hq612 := e412.at hqgS hq64
      have hrs2 : rs ≠ rs.set d (rw'.set t v) := fun e => by
        have h1 : rs[d]? = (rs.set d (rw'.set t v))[d]? := by rw [← e]
        rw [List.getElem?_set_self hd, hrw] at h1
        have h2 : rw' = rw'.set t v := Option.some.inj h1
        have h3 : rw'[t]? = (rw'.set t v)[t]? := by rw [← h2]
        rw [List.getElem?_set_self ht, hu] at h3
        exact hvu (Option.some.inj h3).symm
      have hw2 : WF al.length (rs.set d (rw'.set t v)) := by
        refine .of (by rw [List.length_set]; exact hpos) (by rw [List.length_set]; exact hle) hw.m3 (fun r hr => ?_) (fun r hr y hy => ?_)
        · rcases List.mem_or_eq_of_mem_set hr with hr | hr
          · exact hw.wid r hr
          · rw [hr, List.length_set]; exact hwl
        · rw [List.length_set]
          rcases List.mem_or_eq_of_mem_set hr with hr | hr
          · exact hw.lt r hr y hy
          · rw [hr] at hy
            rcases List.mem_or_eq_of_mem_set hy with hy | hy
            · exact hw.lt _ hmemrw y hy
            · rw [hy]; exact hvl
      have hL12 := e6.at hLS hL9
      walk_at "go"
      intro y3 dy3 hy3 hdy3 hne3
      refine mk_good (Z := S) ha hS12.to ⟨hD2S, false, bs, hD6, hrows⟩ hw2 ⟨hqgS, tg, hq612⟩ (by rw [List.length_set]; exact hg) hy3 hdy3 hne3 (fun H13 s13' hr3 => ?_)
      have e1213 := Ev.of_same hS12 s13'
      have e913 := e6.trans e1213
      have hL13 := e913.at hLS hL9
      walk_at "go"
      refine i_append hL13 (by show 2 < 16777216; decide) ?_
      have e9 : Ev S H4 (upd H13 L (.lst (([y, y2] : List Addr).map V.ref ++ [.ref y3]))) := Ev.put hS4 (e49.trans e913) hLn
      have hput : ∀ {b}, Oth C S H13 al rs gd b → Oth C S (upd H13 L (.lst (([y, y2] : List Addr).map V.ref ++ [.ref y3]))) al rs gd b := fun ⟨bl, rs', gd', ⟨h0, dx', pm', pg', h1, h2, h3⟩, h4⟩ => by
        have hnt : ∀ vs, H13 L ≠ some (.tup vs) := fun vs e => by rw [hL13] at e; cases e
        refine ⟨bl, rs', gd', ⟨h0, dx', pm', pg', ?_, h2.upd hnt, h3.upd hnt⟩, h4⟩
        rw [upd_ne (fun e => by rw [e, hL13] at h1; cases h1)]
        exact h1
      walk_at "go"
      refine ⟨_, _, [y, y2, y3], rfl, e9, upd_same, fun b hb => hput ?_⟩
      rcases List.mem_cons.mp hb with rfl | hb
      · exact o1.ev e913
      rcases List.mem_cons.mp hb with rfl | hb
      · exact o2.ev e913
      · rw [List.mem_singleton.mp hb]
        exact ⟨al, _, gd, hr3, by rw [List.length_set]; exact hle, fun z => hrs2 z.2.1⟩
    obtain ⟨x10, x11, ls, rfl, e10, hL10, hls⟩ := hq
    have e010 := e04.trans e10
    have hl10 := e10.at hnl hl4
    have hag10 := ((hag.toS e03.src).ev e34).ev e10
    have hp10 := hp0.ev e010
    walk_at "go"
    refine seq_for (t := false) hL10 (fun i σ H11 => ∃ x12 : Option V, σ = [some (.str (SX.S al)), some (.ref p), some (.ref pr), some (.ref a), some (.ref l), some (vn rs.length), some (.ref ag), some (vn d), some (.ref D), some (.ref L), x10, x11, x12, none, none] ∧ H11 = H10) ⟨none, rfl, rfl⟩ (fun i σ H11 _ ⟨_, _, e⟩ => by rw [e]; exact hL10) (fun i v σ H11 hv hq => ?_) (fun σ H11 hq => ?_)
    · obtain ⟨x12, rfl, rfl⟩ := hq
      obtain ⟨b, hb, rfl⟩ := at_map hv
      obtain ⟨bl, rs', gd', hrb, hlb, hneb⟩ := hls b (List.mem_of_getElem? hb)
      have hneb' : ¬ (bl = al ∧ rs' = rs ∧ gd' = gd) := fun ⟨z1, z2, z3⟩ => hneb ⟨z1.symm, z2.symm, z3.symm⟩
      walk_at "go"
      refine own_eqR hp10 hrb hle hlb ?_
      rw [decide_eq_false hneb]
      walk_at "go"
      refine own_eqR hrb hp10 hlb hle ?_
      rw [decide_eq_false hneb']
      walk_at "go"
      refine own_neR hp10 hrb hle hlb ?_
      rw [decide_eq_false hneb]
      walk_at "go"
      exact ⟨_, rfl, rfl⟩
    · obtain ⟨x12, rfl, rfl⟩ := hq
      walk_at "go"
      refine i_ixT (e010.at hqZ hq1) (i := 1) (v := .ref qg) rfl ?_
      walk_at "go"
      refine i_tupleOf (e010.at hqgS hq6) (fun l3 H11 h1 s11 h3' => ?_)
      walk_at "go"
      refine ⟨sz3, fun W hW => ?_⟩
      have s12 := s11.trans (same_laid (o := .tup [.str (SX.S al), .ref l, .ref l3]) hW)
      refine own_eqN (hp10.same s12) hle (.tup upd_same) T.sT T.kT ?_
      walk_at "go"
      refine own_eqN (hp10.same s12) hle (.str _) T.sS T.kS ?_
      walk_at "go"
      exact k _ (e010.trans (.of_same e010.src s12))
end
abbrev s_law_wrong_alphabet : Stmt := top 60
theorem sc_law_wrong_alphabet : FnScope ["source", "menu"] ["source"] (fnScope s_law_wrong_alphabet) := ⟨rfl, rfl, rfl, by decide +kernel, rfl, by decide +kernel, by decide +kernel⟩
theorem shw_str {K : PySem.W.Frag} {H : Hp} {z : Str} (h : (reprText z).length ≤ 100000) (ho : PyData.strOk (reprText z) = true) : Shw K H (.str z) (.str z) := ⟨.str z, rfl, rfl, by show 0 ≤ 30; decide, h, ho⟩
theorem shw_non {K : PySem.W.Frag} {H : Hp} : Shw K H .non .none := ⟨.non, rfl, rfl, by show 0 ≤ 30; decide, by decide +kernel, by decide +kernel⟩
theorem shw_bl {K : PySem.W.Frag} {H : Hp} : Shw K H (.bl true) (.bool true) := ⟨.bl _, rfl, rfl, by show 0 ≤ 30; decide, by decide +kernel, by decide +kernel⟩
theorem alstr {z : Str} (h : z.length ≤ 4000) : AlStr (.str z) := fun y e => by
  cases e
  exact h
def sp_law_wrong_alphabet (K : PySem.W.Frag) : Sp := fun vs H Q _ => ∃ (S : AS) (a : Addr), vs = [.ref a] ∧ S a ∧ Srcs S H ∧ ∀ x tn D H', Ev S H H' → (∀ H'', Kp S H' H'' → Thg H'' x tn ∧ Shw K H'' x D) → AlStr x → alB x = false → Q x H'
section
variable {P : Program} {w : World} {K : PySem.W.Frag} {mg : Str → Option Value} {base : Heap} {C : Addr} {r : Er}
set_option maxHeartbeats 4000000 in
theorem ok_law_wrong_alphabet {f : Addr} {fd : FuncData} (F : Def K mg "_law_wrong_alphabet" s_law_wrong_alphabet f fd) (T : Txt K mg C r) (b : Binds K fd ["source"] []) (c_law_pick : Cal P w K mg base 1 "_law_pick" sp_law_pick []) : Cal P w K mg base 2 "_law_wrong_alphabet" (sp_law_wrong_alphabet K) [] := by
  refine cal0 F b .nil sc_law_wrong_alphabet (fun vs H Q E h => ?_) (fun cdv A outer s H vs Q E hr h => ?_)
  · obtain ⟨_, _, rfl, _⟩ := h
    rfl
  · obtain ⟨S, a, rfl, ha, hS, k⟩ := h
    refine ⟨_, (pss_cons (ps_set (i := 1) sc_law_wrong_alphabet.nd rfl (by first | exact Or.inl rfl | exact Or.inr rfl) (pe_lst (pa_cons pe_str (pa_cons pe_str (pa_cons pe_str (pa_cons pe_str (pa_cons pe_str (pa_cons pe_str (pa_cons pe_str (pa_cons pe_non (pa_cons pe_int (pa_cons pe_bl (pa_cons (pe_lst (pa_cons pe_str pa_nil)) (pa_cons (pe_tup (pa_cons pe_str (pa_cons pe_str pa_nil))) (pa_cons pe_str (pa_cons pe_str (pa_cons pe_str (pa_cons pe_str pa_nil))))))))))))))))))
        (pss_one (ps_ret (pe_ix (ixK K rfl) (pv 1) (pe_c c_law_pick hr (by decide) rfl (pa_cons (pv 0) (pa_cons (pe_callB (lenK K rfl) (by rfl) T.b_len (by decide +kernel) (pa_cons (pv 1) pa_nil)) pa_nil))) (fun _ _ => rfl))))), ?_⟩
    walk_at "go"
    refine ⟨sz1, fun l1 hl1 => ?_⟩
    have e1 := Ev.laid (o := .lst [.str "a"]) hS hl1
    have h1 : (upd H l1 (.lst [.str "a"])) l1 = some (.lst [.str "a"]) := upd_same
    have n1 := hS.notin hl1
    generalize upd H l1 (.lst [.str "a"]) = H1 at *
    walk_at "go"
    refine ⟨sz2, fun l2 hl2 => ?_⟩
    have e2 := Ev.laid (o := .tup [.str "a", .str "b"]) e1.src hl2
    have h2 : (upd H1 l2 (.tup [.str "a", .str "b"])) l2 = some (.tup [.str "a", .str "b"]) := upd_same
    have n2 := e1.src.notin hl2
    generalize upd H1 l2 (.tup [.str "a", .str "b"]) = H2 at *
    walk_at "go"
    refine ⟨szl (by show 16 ≤ 16777216; decide), fun p hp => ?_⟩
    have e3 := Ev.laid (o := .lst [.str "", .str "ba", .str "aa", .str "abcd", .str "aB", .str "a ", .str "A", .non, .int 7, .bl true, .ref l1, .ref l2, .str "a1", .str "zyx", .str "ab\n", .str "abb"]) e2.src hp
    have h3 : (upd H2 p (.lst [.str "", .str "ba", .str "aa", .str "abcd", .str "aB", .str "a ", .str "A", .non, .int 7, .bl true, .ref l1, .ref l2, .str "a1", .str "zyx", .str "ab\n", .str "abb"])) p = some (.lst [.str "", .str "ba", .str "aa", .str "abcd", .str "aB", .str "a ", .str "A", .non, .int 7, .bl true, .ref l1, .ref l2, .str "a1", .str "zyx", .str "ab\n", .str "abb"]) := upd_same
    have n3 := e2.src.notin hp
    generalize upd H2 p (.lst [.str "", .str "ba", .str "aa", .str "abcd", .str "aB", .str "a ", .str "A", .non, .int 7, .bl true, .ref l1, .ref l2, .str "a1", .str "zyx", .str "ab\n", .str "abb"]) = H3 at *
    walk_at "go"
    refine ⟨S, a, _, rfl, ha, e3.src, by show (0 : Int) < 16; decide, by show (16 : Int) < 1073741824; decide, fun d H4 g0 g1 e4 => ?_⟩
    have hp4 := e4.at n3 h3
    have h14 := (e2.trans (e3.trans e4)).at n1 h1
    have h24 := (e3.trans e4).at n2 h2
    have e04 := e1.trans (e2.trans (e3.trans e4))
    have key : ∀ x tn D, atI ([.str "", .str "ba", .str "aa", .str "abcd", .str "aB", .str "a ", .str "A", .non, .int 7, .bl true, .ref l1, .ref l2, .str "a1", .str "zyx", .str "ab\n", .str "abb"] : List V) d = some x → (∀ H'', Kp S H4 H'' → Thg H'' x tn ∧ Shw K H'' x D) → AlStr x → alB x = false → rIx K (.ref p) (.int d) H4 Q := fun x tn D he ty hz hb => by
      refine i_ixL hp4 he ?_
      exact k x tn D H4 e04 ty hz hb
    have nostr : AlStr .non ∧ AlStr (.bl true) ∧ AlStr (.int 7) ∧ ∀ {l}, AlStr (.ref l) := ⟨fun _ e => (by cases e), fun _ e => (by cases e), fun _ e => (by cases e), fun _ e => (by cases e)⟩
    have h1' : d < 16 := g1
    have hd : d = 0 ∨ d = 1 ∨ d = 2 ∨ d = 3 ∨ d = 4 ∨ d = 5 ∨ d = 6 ∨ d = 7 ∨ d = 8 ∨ d = 9 ∨ d = 10 ∨ d = 11 ∨ d = 12 ∨ d = 13 ∨ d = 14 ∨ d = 15 := by omega
    rcases hd with rfl | rfl | rfl | rfl | rfl | rfl | rfl | rfl | rfl | rfl | rfl | rfl | rfl | rfl | rfl | rfl
    · exact key (.str "") _ _ rfl (fun _ _ => ⟨.str _, shw_str (by decide +kernel) (by decide +kernel)⟩) (alstr (by decide +kernel)) (by decide +kernel)
    · exact key (.str "ba") _ _ rfl (fun _ _ => ⟨.str _, shw_str (by decide +kernel) (by decide +kernel)⟩) (alstr (by decide +kernel)) (by decide +kernel)
    · exact key (.str "aa") _ _ rfl (fun _ _ => ⟨.str _, shw_str (by decide +kernel) (by decide +kernel)⟩) (alstr (by decide +kernel)) (by decide +kernel)
    · exact key (.str "abcd") _ _ rfl (fun _ _ => ⟨.str _, shw_str (by decide +kernel) (by decide +kernel)⟩) (alstr (by decide +kernel)) (by decide +kernel)
    · exact key (.str "aB") _ _ rfl (fun _ _ => ⟨.str _, shw_str (by decide +kernel) (by decide +kernel)⟩) (alstr (by decide +kernel)) (by decide +kernel)
    · exact key (.str "a ") _ _ rfl (fun _ _ => ⟨.str _, shw_str (by decide +kernel) (by decide +kernel)⟩) (alstr (by decide +kernel)) (by decide +kernel)
    · exact key (.str "A") _ _ rfl (fun _ _ => ⟨.str _, shw_str (by decide +kernel) (by decide +kernel)⟩) (alstr (by decide +kernel)) (by decide +kernel)
    · exact key .non _ _ rfl (fun _ _ => ⟨.non, shw_non⟩) nostr.1 rfl
    · exact key (.int 7) _ _ rfl (fun _ _ => ⟨.int _, shw_int ⟨by decide, by decide⟩⟩) nostr.2.2.1 rfl
    · exact key (.bl true) _ _ rfl (fun _ _ => ⟨.bl _, shw_bl⟩) nostr.2.1 rfl
    · exact key (.ref l1) _ _ rfl (fun _ kk => ⟨.lst (kk _ _ n1 h14), .lst (SqL.of (kk _ _ n1 h14)) (.cons (.str _) .nil), rfl, rfl, by decide, by decide +kernel, by decide +kernel⟩) nostr.2.2.2 rfl
    · exact key (.ref l2) _ _ rfl (fun _ kk => ⟨.tup (kk _ _ n2 h24), .tup (SqT.of (kk _ _ n2 h24)) (.cons (.str _) (.cons (.str _) .nil)), rfl, rfl, by decide, by decide +kernel, by decide +kernel⟩) nostr.2.2.2 rfl
    · exact key (.str "a1") _ _ rfl (fun _ _ => ⟨.str _, shw_str (by decide +kernel) (by decide +kernel)⟩) (alstr (by decide +kernel)) (by decide +kernel)
    · exact key (.str "zyx") _ _ rfl (fun _ _ => ⟨.str _, shw_str (by decide +kernel) (by decide +kernel)⟩) (alstr (by decide +kernel)) (by decide +kernel)
    · exact key (.str "ab\n") _ _ rfl (fun _ _ => ⟨.str _, shw_str (by decide +kernel) (by decide +kernel)⟩) (alstr (by decide +kernel)) (by decide +kernel)
    · exact key (.str "abb") _ _ rfl (fun _ _ => ⟨.str _, shw_str (by decide +kernel) (by decide +kernel)⟩) (alstr (by decide +kernel)) (by decide +kernel)
end
abbrev s_law_wrong_moves : Stmt := top 61
theorem sc_law_wrong_moves : FnScope ["source", "told", "many", "rows", "size", "way", "at", "p", "table", "t", "odd", "row"] ["source", "told", "many"] (fnScope s_law_wrong_moves) := ⟨rfl, rfl, rfl, by decide +kernel, rfl, by decide +kernel, by decide +kernel⟩
theorem mv_row {H : Hp} {p : Addr} {t : Bool} {xs : List V} {rs : Rws} {bs : List Addr} {m d : Nat} {v : V} (h : H p = some (sq t xs)) (hl : xs.length = rs.length) (hw : WF m rs)
    (hb : ∀ j a, j < d → bs[j]? = some a → ∃ r, rs[j]? = some r ∧ H a = some (.lst (r.map vn))) (hp : ∀ j, j < d → xs[j]? = (bs.map V.ref)[j]?) (he : xs[d]? = some v) (hn : RowNo H m xs.length v) : MvBad H m (.ref p) (d : Int) := by
  have hpos := hw.pos
  have hle := hw.le
  refine .row h (by omega) (by omega) (fun j w hj hjw => ?_) he hn
  rw [hp j hj] at hjw
  obtain ⟨a, ha, rfl⟩ := at_map hjw
  obtain ⟨r, hr, hra⟩ := hb j a hj ha
  have hm := List.mem_of_getElem? hr
  exact ⟨a, false, r, rfl, hra, hw.wid _ hm, fun u hu => by rw [hl]; exact hw.lt _ hm u hu⟩
def sp_law_wrong_moves : Sp := fun vs H Q _ => ∃ (S : AS) (a pm : Addr) (rs : Rws) (m : Nat), vs = [.ref a, .ref pm, .int (m : Int)] ∧ S a ∧ Srcs S H ∧ RowsL S H pm rs ∧ WF m rs ∧ 0 < m ∧
  ∀ q x (i : Int) H', Ev S H H' → H q = none → H' q = some (.lst [x, .int i]) → (∀ H'', Kp S H' H'' → MvBad H'' m x i) → Q (.ref q) H'
section
variable {P : Program} {w : World} {K : PySem.W.Frag} {mg : Str → Option Value} {base : Heap} {C : Addr} {r : Er}
set_option maxHeartbeats 4000000 in
theorem ok_law_wrong_moves {f : Addr} {fd : FuncData} (F : Def K mg "_law_wrong_moves" s_law_wrong_moves f fd) (T : Txt K mg C r) (b : Binds K fd ["source", "told", "many"] []) (c_law_pick : Cal P w K mg base 1 "_law_pick" sp_law_pick []) : Cal P w K mg base 2 "_law_wrong_moves" (sp_law_wrong_moves) [] := by
  refine cal0 F b .nil sc_law_wrong_moves (fun vs H Q E h => ?_) (fun cdv A outer s H vs Q E hr h => ?_)
  · obtain ⟨_, _, _, _, _, rfl, _⟩ := h
    rfl
  · obtain ⟨S, a, pm, rs, m, rfl, ha, hS, hm, hw, hm0, k⟩ := h
    refine ⟨_, (pss_cons (ps_set (i := 3) sc_law_wrong_moves.nd rfl (by first | exact Or.inl rfl | exact Or.inr rfl) (pe_lc (own := [("row", 11)]) rfl sc_law_wrong_moves.nd (seqK K rfl (pv 1)) (blkOk_by (by kernel_rfl)) (fun _ _ _ _ _ => (pg_name (i := 11) sc_law_wrong_moves.nd rfl (by first | exact Or.inl rfl | exact Or.inr rfl))) (fun _ _ _ _ _ => pts_nil) (fun _ _ _ _ _ => (pe_callTy (listK K rfl) (by rfl) T.b_list (by decide +kernel) (pa_cons (pv 11) pa_nil)))))
        (pss_cons (ps_set (i := 4) sc_law_wrong_moves.nd rfl (by first | exact Or.inl rfl | exact Or.inr rfl) (pe_callB (lenK K rfl) (by rfl) T.b_len (by decide +kernel) (pa_cons (pv 3) pa_nil)))
        (pss_cons (ps_set (i := 5) sc_law_wrong_moves.nd rfl (by first | exact Or.inl rfl | exact Or.inr rfl) (pe_c c_law_pick hr (by decide) rfl (pa_cons (pv 0) (pa_cons pe_int pa_nil))))
        (pss_cons (ps_if (pt_cmpR op_eq (pv 5) pe_int (nomark _)) (pss_one (ps_ret (pe_lst (pa_cons (pe_ix (ixK K rfl) (pe_lst (pa_cons pe_non (pa_cons pe_str (pa_cons pe_int (pa_cons (pe_lst pa_nil) (pa_cons (pe_tup pa_nil) (pa_cons pe_bl (pa_cons pe_dnewK pa_nil)))))))) (pe_c c_law_pick hr (by decide) rfl (pa_cons (pv 0) (pa_cons pe_int pa_nil))) (fun _ _ => rfl)) (pa_cons (pe_un un_neg pe_int) pa_nil))))) pss_nil)
        (pss_cons (ps_if (pt_cmpR op_eq (pv 5) pe_int (nomark _)) (pss_cons (ps_set (i := 3) sc_law_wrong_moves.nd rfl (by first | exact Or.inl rfl | exact Or.inr rfl) (pe_lc (own := [("p", 7)]) rfl sc_law_wrong_moves.nd (pi_range1 (by rfl) T.b_range (pa_cons pe_int pa_nil)) (blkOk_by (by kernel_rfl)) (fun _ _ _ _ _ => (pg_name (i := 7) sc_law_wrong_moves.nd rfl (by first | exact Or.inl rfl | exact Or.inr rfl))) (fun _ _ _ _ _ => pts_nil) (fun _ _ _ _ _ => (pe_callTy (listK K rfl) (by rfl) T.b_list (by decide +kernel) (pa_cons (pe_ix (ixK K rfl) (pv 3) pe_int (fun _ _ => rfl)) pa_nil)))))
        (pss_cons (ps_if (pt_cmpR op_eq (pe_c c_law_pick hr (by decide) rfl (pa_cons (pv 0) (pa_cons pe_int pa_nil))) pe_int (nomark _)) (pss_one (ps_asg pe_non (pg_sub (pv 3) (pe_c c_law_pick hr (by decide) rfl (pa_cons (pv 0) (pa_cons pe_int pa_nil))) set_list))) pss_nil)
        (pss_one (ps_ret (pe_lst (pa_cons (pv 3) (pa_cons (pe_un un_neg pe_int) pa_nil))))))) pss_nil)
        (pss_cons (ps_set (i := 6) sc_law_wrong_moves.nd rfl (by first | exact Or.inl rfl | exact Or.inr rfl) (pe_c c_law_pick hr (by decide) rfl (pa_cons (pv 0) (pa_cons (pv 4) pa_nil))))
        (C8.pss_cut (ps_for PassesOwn.never rfl (pi_range2 (by rfl) T.b_range (pa_cons (pe_op op_add (pv 6) pe_int) (pa_cons (pv 4) pa_nil))) (pg_name (i := 7) sc_law_wrong_moves.nd rfl (by first | exact Or.inl rfl | exact Or.inr rfl))
        (pss_one (ps_if (pt_cmpR op_eq (pe_c c_law_pick hr (by decide) rfl (pa_cons (pv 0) (pa_cons pe_int pa_nil))) pe_int (nomark _)) (pss_one (ps_asg (pe_lc (own := [("t", 9)]) rfl sc_law_wrong_moves.nd (pi_range1 (by rfl) T.b_range (pa_cons (pv 2) pa_nil)) (blkOk_by (by kernel_rfl)) (fun _ _ _ _ _ => (pg_name (i := 9) sc_law_wrong_moves.nd rfl (by first | exact Or.inl rfl | exact Or.inr rfl))) (fun _ _ _ _ _ => pts_nil) (fun _ _ _ _ _ => (pv 4))) (pg_sub (pv 3) (pv 7) set_list))) pss_nil)))
        (pss_cons (ps_if (pt_cmpR (inK K rfl) (pv 5) (pe_tup (pa_cons pe_int (pa_cons pe_int pa_nil))) rfl) (pss_cons (ps_set (i := 8) sc_law_wrong_moves.nd rfl (by first | exact Or.inl rfl | exact Or.inr rfl) pe_dnewK)
        (pss_cons (ps_for PassesOwn.never rfl (pi_range1 (by rfl) T.b_range (pa_cons (pv 2) pa_nil)) (pg_name (i := 9) sc_law_wrong_moves.nd rfl (by first | exact Or.inl rfl | exact Or.inr rfl))
        (pss_one (ps_dput (hu_of hr) (pv 8) (pv 9) pe_int rfl)))
        (pss_cons (ps_asg (pe_ix (ixK K rfl) (pe_lst (pa_cons pe_non (pa_cons pe_int (pa_cons (pe_op op_strMul pe_str (pv 2)) (pa_cons (pe_op op_cat (pe_ix (ixK K rfl) (pv 3) (pv 6) (fun _ _ => rfl)) (pe_lst (pa_cons pe_int pa_nil))) (pa_cons (pe_slice (slLK K rfl) (pe_ix (ixK K rfl) (pv 3) (pv 6) (fun _ _ => rfl)) (po_some pe_int) po_none) (pa_cons (pv 8) (pa_cons pe_bl pa_nil)))))))) (pe_c c_law_pick hr (by decide) rfl (pa_cons (pv 0) (pa_cons pe_int pa_nil))) (fun _ _ => rfl)) (pg_sub (pv 3) (pv 6) set_list))
        (pss_one (ps_ret (pe_lst (pa_cons (pv 3) (pa_cons (pv 6) pa_nil)))))))) pss_nil)
        (pss_cons (ps_set (i := 10) sc_law_wrong_moves.nd rfl (by first | exact Or.inl rfl | exact Or.inr rfl) (pe_lst (pa_cons (pv 4) (pa_cons (pe_un un_neg pe_int) (pa_cons pe_bl (pa_cons pe_non (pa_cons pe_str (pa_cons (pe_lst (pa_cons pe_int pa_nil)) (pa_cons (pe_op op_add (pv 4) (pe_op op_pow pe_int pe_int)) (pa_cons pe_bl (pa_cons (pe_op op_add (pv 4) pe_int) (pa_cons (pe_un un_neg (pv 4)) pa_nil))))))))))))
        (pss_cons (ps_asg (pe_ix (ixK K rfl) (pv 10) (pe_c c_law_pick hr (by decide) rfl (pa_cons (pv 0) (pa_cons (pe_callB (lenK K rfl) (by rfl) T.b_len (by decide +kernel) (pa_cons (pv 10) pa_nil)) pa_nil))) (fun _ _ => rfl)) (pg_sub (pe_ix (ixK K rfl) (pv 3) (pv 6) (fun _ _ => rfl)) (pe_c c_law_pick hr (by decide) rfl (pa_cons (pv 0) (pa_cons (pv 2) pa_nil))) set_list))
        (pss_cons (ps_if (pt_cmpR op_eq (pe_c c_law_pick hr (by decide) rfl (pa_cons (pv 0) (pa_cons pe_int pa_nil))) pe_int (nomark _)) (pss_one (ps_ret (pe_lst (pa_cons (pe_callTy (tupleK K rfl) (by rfl) T.b_tuple (by decide +kernel) (pa_cons (pv 3) pa_nil)) (pa_cons (pv 6) pa_nil))))) pss_nil)
        (pss_one (ps_ret (pe_lst (pa_cons (pv 3) (pa_cons (pv 6) pa_nil)))))))))))))))), ?_⟩
    walk_at "go"
    obtain ⟨hmS, as, hm1, hm2⟩ := hm
    have hlen : (as.map V.ref).length = rs.length := by rw [List.length_map, hm2.length]
    have hle := hw.le
    have hpos := hw.pos
    have hm3 := hw.m3
    refine seq_lc (t := false) hm1 (fun D hD => ⟨fun j H3 => Same H H3 ∧ ∃ bs, H3 D = some (.lst (bs.map V.ref)) ∧ Paired (fun a r => H a = none ∧ a ≠ D ∧ H3 a = some (.lst (r.map vn))) bs (rs.take j) ∧ bs.Nodup, ⟨same_laid hD, [], upd_same, by simp; exact .nil, List.nodup_nil⟩, fun j H3 _ ⟨e, _⟩ => e _ _ hm1, fun j v H3 hvj hq => ?_, fun H3 hq => ?_⟩)
    · obtain ⟨s3, bs, hD3, hbs, hnd⟩ := hq
      obtain ⟨b, hvb, rfl⟩ := at_map hvj
      obtain ⟨rw', hrw, hia1, hia2⟩ := Paired.at0 hm2 hvb
      have hj : j < rs.length := (List.getElem?_eq_some_iff.mp hrw).1
      walk_at "go"
      refine i_listOf (t := false) (s3 _ _ hia2) (fun l hl => ?_)
      have hlD : l ≠ D := (ne_of_none hD3 hl).symm
      refine ⟨bs.map V.ref, by rw [upd_ne hlD.symm]; exact hD3, szlt (by rw [List.length_map, hbs.length, List.length_take]; omega), Same.put (s3.trans (same_laid hl)) hD, bs ++ [l], by rw [upd_same, List.map_append]; rfl, ?_, ?_⟩
      · rw [take_at hrw]
        refine U.Paired.snoc (Paired.mapP hbs fun b r z => ⟨z.1, z.2.1, ?_⟩) ⟨same_free s3 hl, hlD, by rw [upd_ne hlD, upd_same]⟩
        rw [upd_ne z.2.1, upd_ne (ne_of_none z.2.2 hl)]
        exact z.2.2
      · rw [List.nodup_append]
        refine ⟨hnd, by simp, fun x hx y hy e => ?_⟩
        rw [List.mem_singleton.mp hy] at e
        obtain ⟨q, hq⟩ := List.mem_iff_getElem?.mp hx
        obtain ⟨r', _, _, _, hz⟩ := Paired.at0 hbs hq
        rw [e, hl] at hz
        cases hz
    obtain ⟨s1, bs, hD1, hbs, hnd⟩ := hq
    rw [hlen, List.take_length] at hbs
    have e1 : Ev S H H3 := .of_same hS s1
    have hDS : ¬ S D := hS.notin hD
    have hbl : (bs.map V.ref).length = rs.length := by rw [List.length_map, hbs.length]
    generalize H3 = H1 at *
    walk_at "go"
    rw [hbl]
    refine ⟨S, a, _, rfl, ha, e1.src, by decide, by decide, fun way H2 g0 g1 e2 => ?_⟩
    have e12 := e1.trans e2
    have hD2 := e2.at hDS hD1
    have hbs2 : Paired (fun a r => H a = none ∧ a ≠ D ∧ H2 a = some (.lst (r.map vn))) bs rs := Paired.mapP hbs fun b r z => ⟨z.1, z.2.1, e2.at (hS.notin z.1) z.2.2⟩
    walk_at "go"
    refine iteD (fun hx => ?_) (fun hx => ?_)
    · walk_at "go"
      refine ⟨szl (by show 0 ≤ 16777216; decide), fun l1 hl1 => ?_⟩
      have e3 := Ev.laid (o := .lst []) e2.src hl1
      have h1 : (upd H2 l1 (.lst [])) l1 = some (.lst []) := upd_same
      have n1 := e2.src.notin hl1
      generalize upd H2 l1 (.lst []) = H4 at *
      walk_at "go"
      refine ⟨szl (by show 0 ≤ 16777216; decide), fun l2 hl2 => ?_⟩
      have e4 := Ev.laid (o := .tup []) e3.src hl2
      have h2 : (upd H4 l2 (.tup [])) l2 = some (.tup []) := upd_same
      have n2 := e3.src.notin hl2
      generalize upd H4 l2 (.tup []) = H5 at *
      walk_at "go"
      intro l3 hl3
      have e5 := Ev.laid (o := .dK []) e4.src hl3
      have h3 : (upd H5 l3 (.dK [])) l3 = some (.dK []) := upd_same
      have n3 := e4.src.notin hl3
      generalize upd H5 l3 (.dK []) = H6 at *
      walk_at "go"
      refine ⟨szl (by show 7 ≤ 16777216; decide), fun p hp => ?_⟩
      have e6 := Ev.laid (o := .lst [.non, .str "00", .int 7, .ref l1, .ref l2, .bl true, .ref l3]) e5.src hp
      have h6 : (upd H6 p (.lst [.non, .str "00", .int 7, .ref l1, .ref l2, .bl true, .ref l3])) p = some (.lst [.non, .str "00", .int 7, .ref l1, .ref l2, .bl true, .ref l3]) := upd_same
      have n6 := e5.src.notin hp
      generalize upd H6 p (.lst [.non, .str "00", .int 7, .ref l1, .ref l2, .bl true, .ref l3]) = H7 at *
      walk_at "go"
      refine ⟨S, a, _, rfl, ha, e6.src, by decide, by decide, fun d H8 g2 g3 e7 => ?_⟩
      have h18 := (e4.trans (e5.trans (e6.trans e7))).at n1 h1
      have h28 := (e5.trans (e6.trans e7)).at n2 h2
      have h38 := (e6.trans e7).at n3 h3
      have hp8 := e7.at n6 h6
      have e08 := e12.trans (e3.trans (e4.trans (e5.trans (e6.trans e7))))
      have hd : d = 0 ∨ d = 1 ∨ d = 2 ∨ d = 3 ∨ d = 4 ∨ d = 5 ∨ d = 6 := by omega
      have fin : ∃ x, atI ([.non, .str "00", .int 7, .ref l1, .ref l2, .bl true, .ref l3] : List V) d = some x ∧ ∀ H'', Kp S H8 H'' → MvBad H'' m x (-1) := by
        rcases hd with rfl | rfl | rfl | rfl | rfl | rfl | rfl
        · exact ⟨_, rfl, fun _ _ => .kind .non (by decide)⟩
        · exact ⟨_, rfl, fun _ _ => .kind (.str _) (by decide)⟩
        · exact ⟨_, rfl, fun _ _ => .kind (.int _) (by decide)⟩
        · exact ⟨_, rfl, fun _ kk => .size (t := false) (kk _ _ n1 h18) (by decide) (by decide)⟩
        · exact ⟨_, rfl, fun _ kk => .size (t := true) (kk _ _ n2 h28) (by decide) (by decide)⟩
        · exact ⟨_, rfl, fun _ _ => .kind (.bl _) (by decide)⟩
        · exact ⟨_, rfl, fun _ kk => .kind (.dct (kk _ _ n3 h38)) (by decide)⟩
      obtain ⟨x, hx1, hx2⟩ := fin
      refine i_ixL hp8 hx1 ?_
      walk_at "go"
      refine ⟨sz2, fun q hq => ?_⟩
      exact k q x (-1) _ (e08.trans (.laid e08.src hq)) (e08.free hq) upd_same (fun H'' kk => hx2 H'' ((Kp.of_same (same_laid hq)).trans kk))
    walk_at "go"
    refine iteD (fun hx => ?_) (fun hx => ?_)
    · walk_at "go"
      refine ⟨by decide, by decide, fun D2 hD20 => ?_⟩
      obtain ⟨b0, hb0⟩ : ∃ b0, bs[0]? = some b0 := ⟨_, List.getElem?_eq_getElem (by rw [hbs.length]; exact hpos)⟩
      obtain ⟨r0, hr0, hb0F, hb0D, hb03⟩ := Paired.at0 hbs2 hb0
      refine rng0_lc (n := 61) (fun i H3 => Same H2 H3 ∧ ∃ cs : List Addr, H3 D2 = some (.lst (cs.map V.ref)) ∧ cs.length = i) ⟨same_laid hD20, [], upd_same, rfl⟩ (fun i H3 hi hq => ?_) (fun H3 hq => ?_)
      · obtain ⟨s3, cs, hD3, hcl⟩ := hq
        walk_at "go"
        refine i_ixL (s3 _ _ hD2) (v := .ref b0) (atI_nat (j := 0) (map_at hb0)) ?_
        walk_at "go"
        refine i_listOf (t := false) (s3 _ _ hb03) (fun l hl => ?_)
        have hlD : l ≠ D2 := (ne_of_none hD3 hl).symm
        exact ⟨cs.map V.ref, by rw [upd_ne hlD.symm]; exact hD3, szlt (by rw [List.length_map]; omega), Same.put (s3.trans (same_laid hl)) hD20, cs ++ [l], by rw [upd_same, List.map_append]; rfl, by simp [hcl]⟩
      obtain ⟨s3, cs, hD3, hcl⟩ := hq
      have e3 : Ev S H2 H3 := .of_same e2.src s3
      have hD2S := e2.src.notin hD20
      have hDH : H D2 = none := e12.free hD20
      walk_at "go"
      refine ⟨S, a, _, rfl, ha, e3.src, by decide, by decide, fun c H4 g2 g3 e4 => ?_⟩
      have hD4 := e4.at hD2S hD3
      have e04 := e12.trans (e3.trans e4)
      walk_at "go"
      refine iteD (fun hx => ?_) (fun hx => ?_)
      · walk_at "go"
        refine ⟨S, a, _, rfl, ha, e4.src, by decide, by decide, fun c H5 g4 g5 e5 => ?_⟩
        obtain ⟨c, rfl⟩ := Int.eq_ofNat_of_zero_le g4
        have hD5 := e5.at hD2S hD4
        refine i_setL hD5 (ixN_nat (by rw [List.length_map]; omega)) ?_
        have e05 : Ev S H (upd H5 D2 (.lst ((cs.map V.ref).set c .non))) := Ev.put hS (e04.trans e5) hDH
        have hD6 : (upd H5 D2 (.lst ((cs.map V.ref).set c .non))) D2 = some (sq false ((cs.map V.ref).set c .non)) := upd_same
        generalize upd H5 D2 (.lst ((cs.map V.ref).set c .non)) = H6 at *
        walk_at "go"
        refine ⟨sz2, fun q hq => ?_⟩
        exact k q _ (-1) _ (e05.trans (.laid e05.src hq)) (e05.free hq) upd_same (fun H'' kk => MvBad.size (kk _ _ hD2S (same_laid hq _ _ hD6)) (by rw [List.length_set, List.length_map]; omega) (by rw [List.length_set, List.length_map]; omega))
      · walk_at "go"
        refine ⟨sz2, fun q hq => ?_⟩
        have hD4' : H4 D2 = some (sq false (cs.map V.ref)) := hD4
        exact k q _ (-1) _ (e04.trans (.laid e04.src hq)) (e04.free hq) upd_same (fun H'' kk => MvBad.size (kk _ _ hD2S (same_laid hq _ _ hD4')) (by rw [List.length_map]; omega) (by rw [List.length_map]; omega))
    walk_at "go"
    obtain ⟨way, rfl⟩ := Int.eq_ofNat_of_zero_le g0
    refine ⟨S, a, _, rfl, ha, e2.src, by omega, by omega, fun d H3 g2 g3 e3 => ?_⟩
    obtain ⟨d, rfl⟩ := Int.eq_ofNat_of_zero_le g2
    have hd : d < rs.length := by omega
    have e13 := e12.trans e3
    have hS3 := e13.src
    have hD3 := e3.at hDS hD2
    have hbs3 : Paired (fun a r => H a = none ∧ a ≠ D ∧ H3 a = some (.lst (r.map vn))) bs rs := Paired.mapP hbs2 fun b r z => ⟨z.1, z.2.1, e3.at (hS.notin z.1) z.2.2⟩
    walk_at "go"
    refine i_cut (fun σ H4 => ∃ (x7 : Option V) (es : List V), σ = [some (.ref a), some (.ref pm), some (vn m), some (.ref D), some (vn rs.length), some (vn way), some (vn d), x7, none, none, none, none] ∧ Ev S H H4 ∧ H4 D = some (.lst es) ∧ es.length = rs.length ∧ (∀ j, j ≤ d → es[j]? = (bs.map V.ref)[j]?) ∧ Paired (fun a r => H a = none ∧ a ≠ D ∧ H4 a = some (.lst (r.map vn))) bs rs) ?_ (fun σ H4 hq => ?_)
    · walk_at "go"
      refine ⟨_, _, rfl, ⟨by omega, by omega, by omega, by omega⟩, ?_⟩
      refine rng_for (fun i σ H4 => ∃ (x7 : Option V) (es : List V), σ = [some (.ref a), some (.ref pm), some (vn m), some (.ref D), some (vn rs.length), some (vn way), some (vn d), x7, none, none, none, none] ∧ Ev S H H4 ∧ H4 D = some (.lst es) ∧ es.length = rs.length ∧ (∀ j, j ≤ d → es[j]? = (bs.map V.ref)[j]?) ∧ Paired (fun a r => H a = none ∧ a ≠ D ∧ H4 a = some (.lst (r.map vn))) bs rs)
        ⟨none, _, rfl, e13, hD3, hbl, fun j _ => rfl, hbs3⟩ (fun i σ H4 hi hq => ?_) (fun σ H4 hq => hq)
      obtain ⟨x7, es, rfl, e04, hD4, hel, hep, hbs4⟩ := hq
      have hi' : d + 1 + i < rs.length := by omega
      walk_at "go"
      refine ⟨S, a, _, rfl, ha, e04.src, by decide, by decide, fun c H5 g4 g5 e5 => ?_⟩
      have e05 := e04.trans e5
      have hD5 := e5.at hDS hD4
      have hbs5 : Paired (fun a r => H a = none ∧ a ≠ D ∧ H5 a = some (.lst (r.map vn))) bs rs := Paired.mapP hbs4 fun b r z => ⟨z.1, z.2.1, e5.at (hS.notin z.1) z.2.2⟩
      walk_at "go"
      refine iteD (fun hx => ?_) (fun hx => ?_)
      · walk_at "go"
        refine ⟨by omega, by omega, fun E hE => ?_⟩
        rw [show ((m : Nat) : Int).toNat = m from Int.toNat_natCast m]
        refine rng0_lc (fun j H6 => Same H5 H6 ∧ ∃ ys : List V, H6 E = some (.lst ys) ∧ ys.length = j) ⟨same_laid hE, [], upd_same, rfl⟩ (fun j H6 hj hq => ?_) (fun H6 hq => ?_)
        · obtain ⟨s6, ys, hE6, hyl⟩ := hq
          walk_at "go"
          exact ⟨ys, hE6, szlt (by omega), Same.put s6 hE, ys ++ [.int (rs.length : Int)], upd_same, by simp [hyl]⟩
        obtain ⟨s6, ys, hE6, hyl⟩ := hq
        walk_at "go"
        refine i_setL (s6 _ _ hD5) (j := d + 1 + i) (by rw [show ((d : Int) + 1 + (i : Int)) = ((d + 1 + i : Nat) : Int) by omega]; exact ixN_nat (by omega)) ?_
        refine ⟨_, _, rfl, Ev.put hS (e05.trans (.of_same e05.src s6)) hD, upd_same, by rw [List.length_set]; exact hel, fun j hj => ?_, Paired.mapP hbs5 fun b r z => ⟨z.1, z.2.1, by rw [upd_ne z.2.1]; exact s6 _ _ z.2.2⟩⟩
        rw [List.getElem?_set_ne (by omega)]
        exact hep j hj
      · walk_at "go"
        exact ⟨_, es, rfl, e05, hD5, hel, hep, hbs5⟩
    obtain ⟨x7, es, rfl, e04, hD4, hel, hep, hbs4⟩ := hq
    obtain ⟨b, hb1⟩ : ∃ b, bs[d]? = some b := ⟨_, List.getElem?_eq_getElem (by rw [hbs4.length]; exact hd)⟩
    obtain ⟨rw', hrw, hbF, hbD, hb4⟩ := Paired.at0 hbs4 hb1
    have hwl := hw.wid _ (List.mem_of_getElem? hrw)
    have hed : es[d]? = some (.ref b) := by rw [hep d (Nat.le_refl _)]; exact map_at hb1
    have hbS := hS.notin hbF
    walk_at "go"
    refine ⟨sz2, fun T0 hT0 => ?_⟩
    have e45 := Ev.laid (o := .tup [.int 3, .int 7]) e04.src hT0
    have hT5 : (upd H4 T0 (.tup [.int 3, .int 7])) T0 = some (sq true (([3, 7] : List Nat).map vn)) := upd_same
    have hD5 := e45.at hDS hD4
    have hb5 := e45.at hbS hb4
    have hbs5 : Paired (fun a r => H a = none ∧ a ≠ D ∧ (upd H4 T0 (.tup [.int 3, .int 7])) a = some (.lst (r.map vn))) bs rs := Paired.mapP hbs4 fun b r z => ⟨z.1, z.2.1, e45.at (hS.notin z.1) z.2.2⟩
    generalize upd H4 T0 (.tup [.int 3, .int 7]) = H5 at *
    have e05 := e04.trans e45
    refine i_inI hT5 ?_
    walk_at "go"
    refine iteD (fun hx => ?_) (fun hx => ?_)
    · walk_at "go"
      intro T1 hT1
      walk_at "go"
      refine ⟨by omega, by omega, ?_⟩
      rw [show ((m : Nat) : Int).toNat = m from Int.toNat_natCast m]
      refine rng0_for (fun i σ H7 => ∃ x9 : Option V, σ = [some (.ref a), some (.ref pm), some (vn m), some (.ref D), some (vn rs.length), some (vn way), some (vn d), x7, some (.ref T1), x9, none, none] ∧ Same H5 H7 ∧ H7 T1 = some (.dK (mapK (List.range i) fun _ => .int 0))) ⟨none, rfl, same_laid hT1, upd_same⟩ (fun i σ H7 hi hq => ?_) (fun σ H7 hq => ?_)
      · obtain ⟨x9, rfl, s7, h7⟩ := hq
        walk_at "go"
        refine r_dput h7 (by rw [mapK_len, List.length_range]; omega) ?_
        exact ⟨_, rfl, Same.put s7 hT1, by rw [upd_same, putK_mapK (by simp) rfl, List.range_succ]⟩
      obtain ⟨x9, rfl, s7, h7⟩ := hq
      have e57 := Ev.of_same e05.src s7
      have hD7 := s7 _ _ hD5
      have hb7 := s7 _ _ hb5
      have hbs7 : Paired (fun a r => H a = none ∧ a ≠ D ∧ H7 a = some (.lst (r.map vn))) bs rs := Paired.mapP hbs5 fun b r z => ⟨z.1, z.2.1, s7 _ _ z.2.2⟩
      have hT1n : ¬ S T1 := e05.src.notin hT1
      walk_at "go"
      refine i_sMul (mulOk_of 16 16 (by decide +kernel) (by omega) (by omega) (by decide) (by decide)) ?_
      walk_at "go"
      refine i_ixL hD7 (v := .ref b) (atI_nat hed) ?_
      walk_at "go"
      refine ⟨sz1, fun c1 hc1 => ?_⟩
      have s8 : Same H7 (upd H7 c1 (.lst [.int 0])) := same_laid hc1
      have h8 : (upd H7 c1 (.lst [.int 0])) c1 = some (.lst [.int 0]) := upd_same
      generalize upd H7 c1 (.lst [.int 0]) = H8 at *
      refine i_cat (s8 _ _ hb7) h8 (by rw [List.length_map]; show _ + 1 ≤ _; omega) (fun l1 hl1 => ?_)
      have s9 : Same H8 (upd H8 l1 (.lst (rw'.map vn ++ [.int 0]))) := same_laid hl1
      have h9 : (upd H8 l1 (.lst (rw'.map vn ++ [.int 0]))) l1 = some (.lst (rw'.map vn ++ [.int 0])) := upd_same
      generalize upd H8 l1 (.lst (rw'.map vn ++ [.int 0])) = H9 at *
      have s79 := s8.trans s9
      walk_at "go"
      refine i_ixL (s79 _ _ hD7) (v := .ref b) (atI_nat hed) ?_
      walk_at "go"
      refine ⟨b, _, rfl, SqL.of (s79 _ _ hb7), fun l2 hl2 => ?_⟩
      have hcut : (cutV (rw'.map vn) (some 1) none).length = m - 1 := by rw [cutV_from1, List.length_drop, List.length_map, hwl]
      have s10 : Same H9 (upd H9 l2 (.lst (cutV (rw'.map vn) (some 1) none))) := same_laid hl2
      have h10 : (upd H9 l2 (.lst (cutV (rw'.map vn) (some 1) none))) l2 = some (.lst (cutV (rw'.map vn) (some 1) none)) := upd_same
      generalize upd H9 l2 (.lst (cutV (rw'.map vn) (some 1) none)) = H10 at *
      walk_at "go"
      refine ⟨szl (by show 7 ≤ 16777216; decide), fun p hp => ?_⟩
      have s11 : Same H10 (upd H10 p (.lst [.non, .int 0, .str (Txt.mul "0" (m : Int)), .ref l1, .ref l2, .ref T1, .bl true])) := same_laid hp
      have h11 : (upd H10 p (.lst [.non, .int 0, .str (Txt.mul "0" (m : Int)), .ref l1, .ref l2, .ref T1, .bl true])) p = some (.lst [.non, .int 0, .str (Txt.mul "0" (m : Int)), .ref l1, .ref l2, .ref T1, .bl true]) := upd_same
      generalize upd H10 p (.lst [.non, .int 0, .str (Txt.mul "0" (m : Int)), .ref l1, .ref l2, .ref T1, .bl true]) = H11 at *
      have s711 := s79.trans (s10.trans s11)
      have e711 : Ev S H7 H11 := .of_same e57.src s711
      have e011 := e05.trans (e57.trans e711)
      walk_at "go"
      refine ⟨S, a, _, rfl, ha, e711.src, by decide, by decide, fun c H12 g4 g5 e12' => ?_⟩
      have e012 := e011.trans e12'
      have hp12 := e12'.at ((e05.trans (e57.trans (.of_same e57.src (s79.trans s10)))).src.notin hp) h11
      have hl12 := ((Ev.of_same (S := S) ((e05.trans (e57.trans (.of_same e57.src s79))).src) (s10.trans s11)).trans e12')
      have n1' : ¬ S l1 := (e05.trans (e57.trans (.of_same e57.src s8))).src.notin hl1
      have n2' : ¬ S l2 := (e05.trans (e57.trans (.of_same e57.src s79))).src.notin hl2
      have h912 : H12 l1 = some (sq false (rw'.map vn ++ [.int 0])) := hl12.at ((e05.trans (e57.trans (.of_same e57.src s8))).src.notin hl1) h9
      have h1012 : H12 l2 = some (sq false (cutV (rw'.map vn) (some 1) none)) := ((Ev.of_same (S := S) ((e05.trans (e57.trans (.of_same e57.src (s79.trans s10)))).src) s11).trans e12').at ((e05.trans (e57.trans (.of_same e57.src s79))).src.notin hl2) h10
      have h712 := (e711.trans e12').at hT1n h7
      have hD12 := (e711.trans e12').at hDS hD7
      have hbs12 : Paired (fun a r => H a = none ∧ a ≠ D ∧ H12 a = some (.lst (r.map vn))) bs rs := Paired.mapP hbs7 fun b r z => ⟨z.1, z.2.1, (e711.trans e12').at (hS.notin z.1) z.2.2⟩
      have fin : ∃ X, atI ([.non, .int 0, .str (Txt.mul "0" (m : Int)), .ref l1, .ref l2, .ref T1, .bl true] : List V) c = some X ∧ ∀ H', (∀ b o, b ≠ D → ¬ S b → H12 b = some o → H' b = some o) → RowNo H' m rs.length X := by
        have hc : c = 0 ∨ c = 1 ∨ c = 2 ∨ c = 3 ∨ c = 4 ∨ c = 5 ∨ c = 6 := by omega
        rcases hc with rfl | rfl | rfl | rfl | rfl | rfl | rfl
        · exact ⟨_, rfl, fun H' hH => .inl ⟨_, .non, by decide⟩⟩
        · exact ⟨_, rfl, fun H' hH => .inl ⟨_, .int _, by decide⟩⟩
        · exact ⟨_, rfl, fun H' hH => .inl ⟨_, .str _, by decide⟩⟩
        · exact ⟨_, rfl, fun H' hH => .inr ⟨l1, false, _, rfl, hH _ _ (ne_of_none (s8 _ _ hD7) hl1).symm n1' h912, by rw [List.length_append, List.length_map]; show _ + 1 ≤ 4000; omega, .inl (by rw [List.length_append, List.length_map]; show _ + 1 ≠ m; omega)⟩⟩
        · exact ⟨_, rfl, fun H' hH => .inr ⟨l2, false, _, rfl, hH _ _ (ne_of_none (s79 _ _ hD7) hl2).symm n2' h1012, by omega, .inl (by omega)⟩⟩
        · exact ⟨_, rfl, fun H' hH => .inl ⟨_, .dct (hH _ _ (ne_of_none hD5 hT1).symm hT1n h712), by decide⟩⟩
        · exact ⟨_, rfl, fun H' hH => .inl ⟨_, .bl _, by decide⟩⟩
      obtain ⟨X, hX1, hX2⟩ := fin
      refine i_ixL hp12 hX1 ?_
      walk_at "go"
      refine i_setL hD12 (ixN_nat (by omega)) ?_
      have e013 : Ev S H (upd H12 D (.lst (es.set d X))) := Ev.put hS e012 hD
      have hD13 : (upd H12 D (.lst (es.set d X))) D = some (sq false (es.set d X)) := upd_same
      have hoth : ∀ H'', Kp S (upd H12 D (.lst (es.set d X))) H'' → ∀ b o, b ≠ D → ¬ S b → H12 b = some o → H'' b = some o := fun H'' kk b o n ns e => kk _ _ ns (by rw [upd_ne n]; exact e)
      generalize upd H12 D (.lst (es.set d X)) = H13 at *
      walk_at "go"
      refine ⟨sz2, fun q hq => ?_⟩
      refine k q _ (d : Int) _ (e013.trans (.laid e013.src hq)) (e013.free hq) upd_same (fun H'' kk => ?_)
      have kk2 := (Kp.of_same (T := S) (same_laid (o := .lst [.ref D, .int (d : Int)]) hq)).trans kk
      have ho := hoth H'' kk2
      refine mv_row (kk2 _ _ hDS hD13) (by rw [List.length_set]; exact hel) hw (fun j a hj ha => ?_) (fun j hj => by rw [List.getElem?_set_ne (by omega)]; exact hep j (by omega)) (by rw [List.getElem?_set_self (by omega)]) (by rw [List.length_set, hel]; exact hX2 H'' ho)
      obtain ⟨r, hr, z⟩ := Paired.at0 hbs12 ha
      exact ⟨r, hr, ho _ _ z.2.1 (hS.notin z.1) z.2.2⟩
    walk_at "go"
    refine ⟨sz1, fun lz hlz => ?_⟩
    have e56 := Ev.laid (o := .lst [.int 0]) e45.src hlz
    have h6 : (upd H5 lz (.lst [.int 0])) lz = some (.lst [.int 0]) := upd_same
    have nlz := e45.src.notin hlz
    have hlzD : lz ≠ D := (ne_of_none hD5 hlz).symm
    have hlzb : lz ≠ b := (ne_of_none hb5 hlz).symm
    generalize upd H5 lz (.lst [.int 0]) = H6 at *
    walk_at "go"
    refine ⟨szl (by show 10 ≤ 16777216; decide), fun p hp => ?_⟩
    have e67 := Ev.laid (o := .lst [.int (rs.length : Int), .int (-1), .bl true, .non, .str "0", .ref lz, .int ((rs.length : Int) + 10 ^ Int.toNat 30), .bl false, .int ((rs.length : Int) + 1), .int (-(rs.length : Int))]) e56.src hp
    have h7 : (upd H6 p (.lst [.int (rs.length : Int), .int (-1), .bl true, .non, .str "0", .ref lz, .int ((rs.length : Int) + 10 ^ Int.toNat 30), .bl false, .int ((rs.length : Int) + 1), .int (-(rs.length : Int))])) p = some (.lst [.int (rs.length : Int), .int (-1), .bl true, .non, .str "0", .ref lz, .int ((rs.length : Int) + 10 ^ Int.toNat 30), .bl false, .int ((rs.length : Int) + 1), .int (-(rs.length : Int))]) := upd_same
    have np := e56.src.notin hp
    generalize upd H6 p (.lst [.int (rs.length : Int), .int (-1), .bl true, .non, .str "0", .ref lz, .int ((rs.length : Int) + 10 ^ Int.toNat 30), .bl false, .int ((rs.length : Int) + 1), .int (-(rs.length : Int))]) = H7 at *
    walk_at "go"
    refine ⟨S, a, _, rfl, ha, e67.src, by show (0 : Int) < 10; decide, by show (10 : Int) < 1073741824; decide, fun c H8 g4 g5 e78 => ?_⟩
    have g5 : c < 10 := g5
    have hp8 := e78.at np h7
    have h68 := (e67.trans e78).at nlz h6
    have fin : ∃ v, atI ([.int (rs.length : Int), .int (-1), .bl true, .non, .str "0", .ref lz, .int ((rs.length : Int) + 10 ^ Int.toNat 30), .bl false, .int ((rs.length : Int) + 1), .int (-(rs.length : Int))] : List V) c = some v ∧ ∀ H' : Hp, H' lz = some (.lst [.int 0]) → ∃ tn, Thg H' v tn ∧ intB 0 ((rs.length : Int) - 1) v = false := by
      have hb0 : ∀ i : Int, ¬ (0 ≤ i ∧ i ≤ (rs.length : Int) - 1) → intB 0 ((rs.length : Int) - 1) (.int i) = false := fun i h => decide_eq_false h
      have hbig : (0 : Int) < 10 ^ Int.toNat 30 := by decide +kernel
      have hc : c = 0 ∨ c = 1 ∨ c = 2 ∨ c = 3 ∨ c = 4 ∨ c = 5 ∨ c = 6 ∨ c = 7 ∨ c = 8 ∨ c = 9 := by omega
      rcases hc with rfl | rfl | rfl | rfl | rfl | rfl | rfl | rfl | rfl | rfl
      · exact ⟨_, rfl, fun H' _ => ⟨_, .int _, hb0 _ (by omega)⟩⟩
      · exact ⟨_, rfl, fun H' _ => ⟨_, .int _, hb0 _ (by omega)⟩⟩
      · exact ⟨_, rfl, fun H' _ => ⟨_, .bl _, rfl⟩⟩
      · exact ⟨_, rfl, fun H' _ => ⟨_, .non, rfl⟩⟩
      · exact ⟨_, rfl, fun H' _ => ⟨_, .str _, rfl⟩⟩
      · exact ⟨_, rfl, fun H' hz => ⟨_, .lst hz, rfl⟩⟩
      · exact ⟨_, rfl, fun H' _ => ⟨_, .int _, hb0 _ (by generalize (10 : Int) ^ Int.toNat 30 = x at *; omega)⟩⟩
      · exact ⟨_, rfl, fun H' _ => ⟨_, .bl _, rfl⟩⟩
      · exact ⟨_, rfl, fun H' _ => ⟨_, .int _, hb0 _ (by omega)⟩⟩
      · exact ⟨_, rfl, fun H' _ => ⟨_, .int _, hb0 _ (by omega)⟩⟩
    obtain ⟨v, hv1, hv2⟩ := fin
    refine i_ixL hp8 hv1 ?_
    have e58 := e56.trans (e67.trans e78)
    have hD8 := e58.at hDS hD5
    have hb8 := e58.at hbS hb5
    walk_at "go"
    refine i_ixL hD8 (v := .ref b) (atI_nat hed) ?_
    walk_at "go"
    refine ⟨S, a, _, rfl, ha, e78.src, by omega, by omega, fun t H9 g6 g7 e9 => ?_⟩
    obtain ⟨t, rfl⟩ := Int.eq_ofNat_of_zero_le g6
    have ht : t < rw'.length := by omega
    have e59 := e58.trans e9
    have hD9 := e59.at hDS hD5
    have hb9 := e59.at hbS hb5
    have h69 := e9.at (e45.src.notin hlz) h68
    refine i_setL hb9 (ixN_nat (by rw [List.length_map]; exact ht)) ?_
    have e010 : Ev S H (upd H9 b (.lst ((rw'.map vn).set t v))) := Ev.put hS (e05.trans e59) hbF
    have hD10 : (upd H9 b (.lst ((rw'.map vn).set t v))) D = some (.lst es) := by rw [upd_ne hbD.symm]; exact hD9
    have hb10 : (upd H9 b (.lst ((rw'.map vn).set t v))) b = some (sq false ((rw'.map vn).set t v)) := upd_same
    have h610 : (upd H9 b (.lst ((rw'.map vn).set t v))) lz = some (.lst [.int 0]) := by rw [upd_ne hlzb]; exact h69
    have hbs10 : ∀ j a, j < d → bs[j]? = some a → ∃ r, rs[j]? = some r ∧ (upd H9 b (.lst ((rw'.map vn).set t v))) a = some (.lst (r.map vn)) := fun j a hj ha => by
      obtain ⟨r, hr, z1, z2, z3⟩ := Paired.at0 hbs5 ha
      have hab : a ≠ b := fun e => by
        obtain ⟨hi1, hi2⟩ := List.getElem?_eq_some_iff.mp ha
        obtain ⟨hi3, hi4⟩ := List.getElem?_eq_some_iff.mp hb1
        exact List.pairwise_iff_getElem.mp hnd j d hi1 hi3 hj (by rw [hi2, hi4, e])
      exact ⟨r, hr, by rw [upd_ne hab]; exact e59.at (hS.notin z1) z3⟩
    generalize upd H9 b (.lst ((rw'.map vn).set t v)) = H10 at *
    have hno : ∀ H'', Kp S H10 H'' → RowNo H'' m es.length (.ref b) := fun H'' kk => .inr ⟨b, false, _, rfl, kk _ _ hbS hb10, by rw [List.length_set, List.length_map]; omega, .inr ⟨fun y hy => by
      rcases List.mem_or_eq_of_mem_set hy with hy | rfl
      · obtain ⟨u, _, rfl⟩ := List.mem_map.mp hy
        exact ⟨_, .int _⟩
      · obtain ⟨tn, ty, _⟩ := hv2 H'' (kk _ _ nlz h610)
        exact ⟨tn, ty⟩, v, by
          have : ((rw'.map vn).set t v)[t]? = some v := List.getElem?_set_self (by rw [List.length_map]; exact ht)
          exact List.mem_of_getElem? this, by
          obtain ⟨tn, _, hb⟩ := hv2 H'' (kk _ _ nlz h610)
          rw [hel]
          exact hb⟩⟩
    have hrow : ∀ H'', Kp S H10 H'' → ∀ j a, j < d → bs[j]? = some a → ∃ r, rs[j]? = some r ∧ H'' a = some (.lst (r.map vn)) := fun H'' kk j a hj ha => by
      obtain ⟨r, hr, z⟩ := hbs10 j a hj ha
      obtain ⟨_, _, z1, _, _⟩ := Paired.at0 hbs5 ha
      exact ⟨r, hr, kk _ _ (hS.notin z1) z⟩
    walk_at "go"
    refine ⟨S, a, _, rfl, ha, e010.src, by decide, by decide, fun c2 H11 g8 g9 e11 => ?_⟩
    have e011 := e010.trans e11
    have hD11 := e11.at hDS hD10
    walk_at "go"
    refine iteD (fun hx => ?_) (fun hx => ?_)
    · walk_at "go"
      refine i_tupleOfL hD11 (fun l hl => ?_)
      have s12 : Same H11 (upd H11 l (.tup es)) := same_laid hl
      have hl12 : (upd H11 l (.tup es)) l = some (sq true es) := upd_same
      have hlS := e011.src.notin hl
      generalize upd H11 l (.tup es) = H12 at *
      walk_at "go"
      refine ⟨sz2, fun q hq => ?_⟩
      have s13 := s12.trans (same_laid (o := .lst [.ref l, .int (d : Int)]) hq)
      refine k q _ (d : Int) _ (e011.trans (.of_same e011.src s13)) (e011.free (same_free s12 hq)) upd_same (fun H'' kk => ?_)
      have kk2 := e11.kp.trans ((Kp.of_same (T := S) s13).trans kk)
      exact mv_row (kk _ _ hlS (same_laid hq _ _ hl12)) hel hw (hrow H'' kk2) (fun j hj => hep j (by omega)) hed (hno H'' kk2)
    · walk_at "go"
      refine ⟨sz2, fun q hq => ?_⟩
      have hD11' : H11 D = some (sq false es) := hD11
      refine k q _ (d : Int) _ (e011.trans (.laid e011.src hq)) (e011.free hq) upd_same (fun H'' kk => ?_)
      have kk2 := e11.kp.trans ((Kp.of_same (T := S) (same_laid (o := .lst [.ref D, .int (d : Int)]) hq)).trans kk)
      exact mv_row (kk _ _ hDS (same_laid hq _ _ hD11')) hel hw (hrow H'' kk2) (fun j hj => hep j (by omega)) hed (hno H'' kk2)
end
abbrev s_law_wrong_good : Stmt := top 62
theorem sc_law_wrong_good : FnScope ["source", "size", "told", "way", "at", "ahead", "odd", "thing", "rest", "p"] ["source", "size", "told"] (fnScope s_law_wrong_good) := ⟨rfl, rfl, rfl, by decide +kernel, rfl, by decide +kernel, by decide +kernel⟩
/-- a thing that may not stand behind so many good rooms -/
def ThOk (lz : Addr) (n d : Nat) (gd : List Nat) (v : V) : Prop := (∀ H' : Hp, H' lz = some (.lst [.int 0]) → ∃ tn, Thg H' v tn ∧ intB 0 ((n : Int) - 1) v = false) ∨ ∃ u u' : Nat, v = vn u ∧ u < n ∧ 0 < d ∧ gd[d - 1]? = some u' ∧ u ≤ u'
theorem gd_bad {H : Hp} {p lz : Addr} {t : Bool} {n d : Nat} {gd : List Nat} {v : V} {rest : List V} (hd : d ≤ gd.length) (hk : GOK n gd) (hv : ThOk lz n d gd v) (hz : H lz = some (.lst [.int 0])) (hl : rest.length ≤ 100) (hn : n ≤ 60)
    (h : H p = some (sq t (((gd.take d).map vn ++ [v]) ++ rest))) : GdBad H n (.ref p) (d : Int) := by
  have hgl := gok_len hk
  have htl : ((gd.take d).map vn).length = d := by rw [List.length_map, List.length_take]; omega
  have hat : ∀ j u, j < d → gd[j]? = some u → (((gd.take d).map vn ++ [v]) ++ rest)[j]? = some (vn u) := fun j u hj hu => by
    rw [List.append_assoc, List.getElem?_append_left (by omega), List.getElem?_map, List.getElem?_take_of_lt hj, hu]
    rfl
  have hvd : (((gd.take d).map vn ++ [v]) ++ rest)[d]? = some v := by
    rw [List.append_assoc, List.getElem?_append_right (by omega), htl, Nat.sub_self]
    rfl
  refine .item h (by rw [List.length_append, List.length_append, htl]; show d + 1 + _ ≤ 4000; omega) (fun j hj => ?_) ⟨v, hvd, ?_⟩
  · have hjl : j < gd.length := by omega
    refine ⟨gd[j], hat j _ hj (List.getElem?_eq_getElem hjl), hk.lt _ (List.getElem_mem hjl), fun h0 => ⟨gd[j - 1]'(by omega), hat _ _ (by omega) (List.getElem?_eq_getElem _), ?_⟩⟩
    exact List.pairwise_iff_getElem.mp hk.inc (j - 1) j _ _ (by omega)
  · rcases hv with hv | ⟨u, u', rfl, h1, h2, h3, h4⟩
    · exact .inl (hv H hz)
    · exact .inr ⟨u, u', rfl, h1, h2, hat _ _ (by omega) h3, h4⟩
def sp_law_wrong_good : Sp := fun vs H Q _ => ∃ (S : AS) (a : Addr) (n : Nat) (pg : Addr) (gd : List Nat), vs = [.ref a, .int (n : Int), .ref pg] ∧ S a ∧ Srcs S H ∧ IntsL S H pg gd ∧ GOK n gd ∧ 0 < n ∧ n ≤ 60 ∧
  ∀ q x (i : Int) H', Ev S H H' → H q = none → H' q = some (.lst [x, .int i]) → (∀ H'', Kp S H' H'' → GdBad H'' n x i) → Q (.ref q) H'
section
variable {P : Program} {w : World} {K : PySem.W.Frag} {mg : Str → Option Value} {base : Heap} {C : Addr} {r : Er}
set_option maxHeartbeats 4000000 in
theorem ok_law_wrong_good {f : Addr} {fd : FuncData} (F : Def K mg "_law_wrong_good" s_law_wrong_good f fd) (T : Txt K mg C r) (b : Binds K fd ["source", "size", "told"] []) (c_law_pick : Cal P w K mg base 1 "_law_pick" sp_law_pick []) : Cal P w K mg base 2 "_law_wrong_good" (sp_law_wrong_good) [] := by
  refine cal0 F b .nil sc_law_wrong_good (fun vs H Q E h => ?_) (fun cdv A outer s H vs Q E hr h => ?_)
  · obtain ⟨_, _, _, _, _, rfl, _⟩ := h
    rfl
  · obtain ⟨S, a, n, pg, gd, rfl, ha, hS, hg, hk, hn0, hn, k⟩ := h
    refine ⟨_, (pss_cons (ps_set (i := 3) sc_law_wrong_good.nd rfl (by first | exact Or.inl rfl | exact Or.inr rfl) (pe_c c_law_pick hr (by decide) rfl (pa_cons (pv 0) (pa_cons pe_int pa_nil))))
        (pss_cons (ps_if (pt_cmpR op_eq (pv 3) pe_int (nomark _)) (pss_one (ps_ret (pe_lst (pa_cons (pe_ix (ixK K rfl) (pe_lst (pa_cons pe_non (pa_cons pe_str (pa_cons pe_int (pa_cons pe_dnewK (pa_cons pe_bl pa_nil)))))) (pe_c c_law_pick hr (by decide) rfl (pa_cons (pv 0) (pa_cons pe_int pa_nil))) (fun _ _ => rfl)) (pa_cons (pe_un un_neg pe_int) pa_nil))))) pss_nil)
        (pss_cons (ps_set (i := 4) sc_law_wrong_good.nd rfl (by first | exact Or.inl rfl | exact Or.inr rfl) (pe_c c_law_pick hr (by decide) rfl (pa_cons (pv 0) (pa_cons (pe_op op_add (pe_callB (lenK K rfl) (by rfl) T.b_len (by decide +kernel) (pa_cons (pv 2) pa_nil)) pe_int) pa_nil))))
        (pss_cons (ps_set (i := 5) sc_law_wrong_good.nd rfl (by first | exact Or.inl rfl | exact Or.inr rfl) (pe_callTy (listK K rfl) (by rfl) T.b_list (by decide +kernel) (pa_cons (pe_slice (slLK K rfl) (pv 2) po_none (po_some (pv 4))) pa_nil)))
        (pss_cons (ps_set (i := 6) sc_law_wrong_good.nd rfl (by first | exact Or.inl rfl | exact Or.inr rfl) (pe_lst (pa_cons (pv 1) (pa_cons (pe_un un_neg pe_int) (pa_cons pe_bl (pa_cons pe_non (pa_cons pe_str (pa_cons (pe_lst (pa_cons pe_int pa_nil)) (pa_cons (pe_op op_add (pv 1) (pe_op op_pow pe_int pe_int)) (pa_cons pe_bl (pa_cons (pe_op op_add (pv 1) pe_int) (pa_cons (pe_un un_neg (pv 1)) pa_nil))))))))))))
        (pss_cons (ps_set (i := 7) sc_law_wrong_good.nd rfl (by first | exact Or.inl rfl | exact Or.inr rfl) (pe_ix (ixK K rfl) (pv 6) (pe_c c_law_pick hr (by decide) rfl (pa_cons (pv 0) (pa_cons (pe_callB (lenK K rfl) (by rfl) T.b_len (by decide +kernel) (pa_cons (pv 6) pa_nil)) pa_nil))) (fun _ _ => rfl)))
        (C8.pss_cut (ps_if (PW.pt (pw_and (pt_cmpR op_gt (pv 4) pe_int (nomark _)) (pw_and1 (pt_cmpR (inK K rfl) (pv 3) (pe_tup (pa_cons pe_int (pa_cons pe_int (pa_cons pe_int pa_nil)))) rfl)))) (pss_one (ps_set (i := 7) sc_law_wrong_good.nd rfl (by first | exact Or.inl rfl | exact Or.inr rfl) (pe_c c_law_pick hr (by decide) rfl (pa_cons (pv 0) (pa_cons (pe_op op_add (pe_ix (ixK K rfl) (pv 5) (pe_op op_sub (pv 4) pe_int) (fun _ _ => rfl)) pe_int) pa_nil))))) pss_nil)
        (C8.pss_cut (ps_if (PW.pt (pw_and (pt_cmpR op_gt (pv 4) pe_int (nomark _)) (pw_and1 (pt_cmpR op_eq (pv 3) pe_int (nomark _))))) (pss_one (ps_set (i := 7) sc_law_wrong_good.nd rfl (by first | exact Or.inl rfl | exact Or.inr rfl) (pe_ix (ixK K rfl) (pv 5) (pe_op op_sub (pv 4) pe_int) (fun _ _ => rfl)))) pss_nil)
        (pss_cons (ps_setLc (i := 8) (own := [("p", 9)]) rfl sc_law_wrong_good.nd rfl rfl (sw_true rfl rfl rfl (by decide +kernel)) (seqK K rfl (pe_slice (slLK K rfl) (pv 2) (po_some (pv 4)) po_none)) (blkOk_by (by kernel_rfl)) (fun _ _ _ _ _ => (pg_name (i := 9) sc_law_wrong_good.nd rfl (by first | exact Or.inl rfl | exact Or.inr rfl))) (fun _ _ _ _ _ => (pts_one (pt_cmpR op_ne (pe_c c_law_pick hr (by decide) rfl (pa_cons (pv 0) (pa_cons pe_int pa_nil))) pe_int (nomark _)))) (fun _ _ _ _ _ => (pv 9)))
        (pss_cons (ps_if (pt_cmpR op_eq (pe_c c_law_pick hr (by decide) rfl (pa_cons (pv 0) (pa_cons pe_int pa_nil))) pe_int (nomark _)) (pss_one (ps_ret (pe_lst (pa_cons (pe_callTy (tupleK K rfl) (by rfl) T.b_tuple (by decide +kernel) (pa_cons (pe_op op_cat (pe_op op_cat (pv 5) (pe_lst (pa_cons (pv 7) pa_nil))) (pv 8)) pa_nil)) (pa_cons (pv 4) pa_nil))))) pss_nil)
        (pss_one (ps_ret (pe_lst (pa_cons (pe_op op_cat (pe_op op_cat (pv 5) (pe_lst (pa_cons (pv 7) pa_nil))) (pv 8)) (pa_cons (pv 4) pa_nil))))))))))))))), ?_⟩
    walk_at "go"
    obtain ⟨hgS, hg1⟩ := hg
    have hgl := gok_len hk
    refine ⟨S, a, _, rfl, ha, hS, by decide, by decide, fun way H1 g0 g1 e1 => ?_⟩
    obtain ⟨way, rfl⟩ := Int.eq_ofNat_of_zero_le g0
    have hg2 := e1.at hgS hg1
    walk_at "go"
    refine iteD (fun hx => ?_) (fun hx => ?_)
    · walk_at "go"
      intro l3 hl3
      have e5 := Ev.laid (o := .dK []) e1.src hl3
      have h3 : (upd H1 l3 (.dK [])) l3 = some (.dK []) := upd_same
      have n3 := e1.src.notin hl3
      generalize upd H1 l3 (.dK []) = H6 at *
      walk_at "go"
      refine ⟨szl (by show 5 ≤ 16777216; decide), fun p hp => ?_⟩
      have e6 := Ev.laid (o := .lst [.non, .str "0", .int 0, .ref l3, .bl true]) e5.src hp
      have h6 : (upd H6 p (.lst [.non, .str "0", .int 0, .ref l3, .bl true])) p = some (.lst [.non, .str "0", .int 0, .ref l3, .bl true]) := upd_same
      have n6 := e5.src.notin hp
      generalize upd H6 p (.lst [.non, .str "0", .int 0, .ref l3, .bl true]) = H7 at *
      walk_at "go"
      refine ⟨S, a, _, rfl, ha, e6.src, by decide, by decide, fun d H8 g2 g3 e7 => ?_⟩
      have h38 := (e6.trans e7).at n3 h3
      have hp8 := e7.at n6 h6
      have e08 := e1.trans (e5.trans (e6.trans e7))
      have hd : d = 0 ∨ d = 1 ∨ d = 2 ∨ d = 3 ∨ d = 4 := by omega
      have fin : ∃ x, atI ([.non, .str "0", .int 0, .ref l3, .bl true] : List V) d = some x ∧ ∀ H'', Kp S H8 H'' → GdBad H'' n x (-1) := by
        rcases hd with rfl | rfl | rfl | rfl | rfl
        · exact ⟨_, rfl, fun _ _ => .kind .non (by decide)⟩
        · exact ⟨_, rfl, fun _ _ => .kind (.str _) (by decide)⟩
        · exact ⟨_, rfl, fun _ _ => .kind (.int _) (by decide)⟩
        · exact ⟨_, rfl, fun _ kk => .kind (.dct (kk _ _ n3 h38)) (by decide)⟩
        · exact ⟨_, rfl, fun _ _ => .kind (.bl _) (by decide)⟩
      obtain ⟨x, hx1, hx2⟩ := fin
      refine i_ixL hp8 hx1 ?_
      walk_at "go"
      refine ⟨sz2, fun q hq => ?_⟩
      exact k q x (-1) _ (e08.trans (.laid e08.src hq)) (e08.free hq) upd_same (fun H'' kk => hx2 H'' ((Kp.of_same (same_laid hq)).trans kk))
    walk_at "go"
    rw [List.length_map]
    refine ⟨S, a, _, rfl, ha, e1.src, by omega, by omega, fun d H2 g2 g3 e2 => ?_⟩
    obtain ⟨d, rfl⟩ := Int.eq_ofNat_of_zero_le g2
    have hd : d ≤ gd.length := by omega
    have e02 := e1.trans e2
    have hg3 := e2.at hgS hg2
    walk_at "go"
    refine ⟨pg, _, rfl, SqL.of hg3, fun l0 hl0 => ?_⟩
    rw [cutV_to]
    have hl03 : (upd H2 l0 (.lst ((gd.map vn).take d))) l0 = some (.lst ((gd.map vn).take d)) := upd_same
    have e23 := Ev.laid (o := .lst ((gd.map vn).take d)) e2.src hl0
    generalize upd H2 l0 (.lst ((gd.map vn).take d)) = H3 at *
    walk_at "go"
    refine i_listOf (t := false) hl03 (fun l hl => ?_)
    have e34 := Ev.laid (o := .lst ((gd.map vn).take d)) e23.src hl
    have hl4 : (upd H3 l (.lst ((gd.map vn).take d))) l = some (.lst ((gd.map vn).take d)) := upd_same
    have hlS := e23.src.notin hl
    generalize upd H3 l (.lst ((gd.map vn).take d)) = H4 at *
    walk_at "go"
    refine ⟨sz1, fun lz hlz => ?_⟩
    have e45 := Ev.laid (o := .lst [.int 0]) e34.src hlz
    have hz5 : (upd H4 lz (.lst [.int 0])) lz = some (.lst [.int 0]) := upd_same
    have nlz := e34.src.notin hlz
    generalize upd H4 lz (.lst [.int 0]) = H5 at *
    walk_at "go"
    refine ⟨szl (by show 10 ≤ 16777216; decide), fun p hp => ?_⟩
    have e56 := Ev.laid (o := .lst [.int (n : Int), .int (-1), .bl true, .non, .str "0", .ref lz, .int ((n : Int) + 10 ^ Int.toNat 30), .bl false, .int ((n : Int) + 1), .int (-(n : Int))]) e45.src hp
    have h6 : (upd H5 p (.lst [.int (n : Int), .int (-1), .bl true, .non, .str "0", .ref lz, .int ((n : Int) + 10 ^ Int.toNat 30), .bl false, .int ((n : Int) + 1), .int (-(n : Int))])) p = some (.lst [.int (n : Int), .int (-1), .bl true, .non, .str "0", .ref lz, .int ((n : Int) + 10 ^ Int.toNat 30), .bl false, .int ((n : Int) + 1), .int (-(n : Int))]) := upd_same
    have np := e45.src.notin hp
    generalize upd H5 p (.lst [.int (n : Int), .int (-1), .bl true, .non, .str "0", .ref lz, .int ((n : Int) + 10 ^ Int.toNat 30), .bl false, .int ((n : Int) + 1), .int (-(n : Int))]) = H6 at *
    walk_at "go"
    refine ⟨S, a, _, rfl, ha, e56.src, by show (0 : Int) < 10; decide, by show (10 : Int) < 1073741824; decide, fun c H7 g4 g5 e67 => ?_⟩
    have g5 : c < 10 := g5
    have hp7 := e67.at np h6
    have e57 := e56.trans e67
    have hz7 := e57.at nlz hz5
    have hl7 := (e45.trans e57).at hlS hl4
    have fin : ∃ v, atI ([.int (n : Int), .int (-1), .bl true, .non, .str "0", .ref lz, .int ((n : Int) + 10 ^ Int.toNat 30), .bl false, .int ((n : Int) + 1), .int (-(n : Int))] : List V) c = some v ∧ ∀ H' : Hp, H' lz = some (.lst [.int 0]) → ∃ tn, Thg H' v tn ∧ intB 0 ((n : Int) - 1) v = false := by
      have hb0 : ∀ i : Int, ¬ (0 ≤ i ∧ i ≤ (n : Int) - 1) → intB 0 ((n : Int) - 1) (.int i) = false := fun i h => decide_eq_false h
      have hbig : (0 : Int) < 10 ^ Int.toNat 30 := by decide +kernel
      have hc : c = 0 ∨ c = 1 ∨ c = 2 ∨ c = 3 ∨ c = 4 ∨ c = 5 ∨ c = 6 ∨ c = 7 ∨ c = 8 ∨ c = 9 := by omega
      rcases hc with rfl | rfl | rfl | rfl | rfl | rfl | rfl | rfl | rfl | rfl
      · exact ⟨_, rfl, fun H' _ => ⟨_, .int _, hb0 _ (by omega)⟩⟩
      · exact ⟨_, rfl, fun H' _ => ⟨_, .int _, hb0 _ (by omega)⟩⟩
      · exact ⟨_, rfl, fun H' _ => ⟨_, .bl _, rfl⟩⟩
      · exact ⟨_, rfl, fun H' _ => ⟨_, .non, rfl⟩⟩
      · exact ⟨_, rfl, fun H' _ => ⟨_, .str _, rfl⟩⟩
      · exact ⟨_, rfl, fun H' hz => ⟨_, .lst hz, rfl⟩⟩
      · exact ⟨_, rfl, fun H' _ => ⟨_, .int _, hb0 _ (by generalize (10 : Int) ^ Int.toNat 30 = x at *; omega)⟩⟩
      · exact ⟨_, rfl, fun H' _ => ⟨_, .bl _, rfl⟩⟩
      · exact ⟨_, rfl, fun H' _ => ⟨_, .int _, hb0 _ (by omega)⟩⟩
      · exact ⟨_, rfl, fun H' _ => ⟨_, .int _, hb0 _ (by omega)⟩⟩
    obtain ⟨v, hv1, hv2⟩ := fin
    refine i_ixL hp7 hv1 ?_
    have e07 := e02.trans (e23.trans (e34.trans (e45.trans e57)))
    have hg7 := e07.at hgS hg1
    walk_at "go"
    have hprev : 0 < d → ∃ u', gd[d - 1]? = some u' ∧ u' < n ∧ atI ((gd.map vn).take d) ((d : Int) - 1) = some (vn u') := fun h0 => by
      have hdl : d - 1 < gd.length := by omega
      refine ⟨gd[d - 1], List.getElem?_eq_getElem hdl, hk.lt _ (List.getElem_mem hdl), ?_⟩
      rw [show ((d : Int) - 1) = ((d - 1 : Nat) : Int) by omega]
      refine atI_nat ?_
      rw [List.getElem?_take_of_lt (by omega), List.getElem?_map, List.getElem?_eq_getElem hdl]
      rfl
    refine i_cut (fun σ H8 => ∃ v : V, σ = [some (.ref a), some (vn n), some (.ref pg), some (vn way), some (vn d), some (.ref l), some (.ref p), some v, none, none] ∧ Ev S H7 H8 ∧ ThOk lz n d gd v) ?_ (fun σ H8 hq => ?_)
    · walk_at "go"
      refine iteD (fun h0 => ?_) (fun h0 => ?_)
      · have h0 : 0 < d := by have : (0 : Int) < _ := h0; omega
        walk_at "go"
        refine ⟨sz3, fun T0 hT0 => ?_⟩
        have e78 := Ev.laid (o := .tup [.int 1, .int 2, .int 5]) e07.src hT0
        have hT8 : (upd H7 T0 (.tup [.int 1, .int 2, .int 5])) T0 = some (sq true (([1, 2, 5] : List Nat).map vn)) := upd_same
        generalize upd H7 T0 (.tup [.int 1, .int 2, .int 5]) = H8 at *
        refine i_inI hT8 ?_
        walk_at "go"
        refine iteD (fun hy => ?_) (fun hy => ?_)
        · obtain ⟨u', hu1, hu2, hu3⟩ := hprev h0
          walk_at "go"
          refine i_ixL (e78.at hlS hl7) hu3 ?_
          walk_at "go"
          refine ⟨S, a, _, rfl, ha, e78.src, by omega, by omega, fun u H9 g6 g7 e89 => ?_⟩
          obtain ⟨u, rfl⟩ := Int.eq_ofNat_of_zero_le g6
          exact ⟨_, rfl, e78.trans e89, .inr ⟨u, u', rfl, by omega, h0, hu1, by omega⟩⟩
        · walk_at "go"
          exact ⟨_, rfl, e78, .inl hv2⟩
      · walk_at "go"
        exact ⟨_, rfl, .refl e07.src, .inl hv2⟩
    obtain ⟨v1, rfl, e78, hv3⟩ := hq
    walk_at "go"
    refine i_cut (fun σ H9 => ∃ v : V, σ = [some (.ref a), some (vn n), some (.ref pg), some (vn way), some (vn d), some (.ref l), some (.ref p), some v, none, none] ∧ H9 = H8 ∧ ThOk lz n d gd v) ?_ (fun σ H9 hq => ?_)
    · walk_at "go"
      refine iteD (fun h0 => ?_) (fun h0 => ?_)
      · have h0 : 0 < d := by have : (0 : Int) < _ := h0; omega
        walk_at "go"
        refine iteD (fun hy => ?_) (fun hy => ?_)
        · obtain ⟨u', hu1, hu2, hu3⟩ := hprev h0
          walk_at "go"
          refine i_ixL (e78.at hlS hl7) hu3 ?_
          walk_at "go"
          exact ⟨_, rfl, rfl, .inr ⟨u', u', rfl, hu2, h0, hu1, Nat.le_refl _⟩⟩
        · walk_at "go"
          exact ⟨_, rfl, rfl, hv3⟩
      · walk_at "go"
        exact ⟨_, rfl, rfl, hv3⟩
    obtain ⟨v2, rfl, rfl, hv4⟩ := hq
    have e08 := e07.trans e78
    have hg8 := e78.at hgS hg7
    have hl8 := e78.at hlS hl7
    have hz8 := e78.at nlz hz7
    walk_at "go"
    refine ⟨pg, _, rfl, SqL.of hg8, fun l1 hl1 => ?_⟩
    rw [cutV_from (by rw [List.length_map]; exact hd)]
    have e89 := Ev.laid (o := .lst ((gd.map vn).drop d)) e08.src hl1
    have hl19 : (upd H9 l1 (.lst ((gd.map vn).drop d))) l1 = some (sq false ((gd.map vn).drop d)) := upd_same
    have hl1S := e08.src.notin hl1
    generalize upd H9 l1 (.lst ((gd.map vn).drop d)) = H10 at *
    have hdl : ((gd.map vn).drop d).length ≤ 60 := by rw [List.length_drop, List.length_map]; omega
    refine seq_lc (t := false) hl19 (fun D hD => ⟨fun j H11 => Ev S H10 H11 ∧ ∃ ys : List V, H11 D = some (.lst ys) ∧ ys.length ≤ j, ⟨.laid e89.src hD, [], upd_same, Nat.le_refl _⟩, fun j H11 _ ⟨e, _⟩ => e.at hl1S hl19, fun j y H11 hy hq => ?_, fun H11 hq => ?_⟩)
    · obtain ⟨e11, ys, hD11, hyl⟩ := hq
      have hj : j < ((gd.map vn).drop d).length := (List.getElem?_eq_some_iff.mp hy).1
      walk_at "go"
      refine ⟨S, a, _, rfl, ha, e11.src, by decide, by decide, fun c H12 g6 g7 e12 => ?_⟩
      have hD12 := e12.at (e89.src.notin hD) hD11
      walk_at "go"
      refine iteDN (fun hx => ?_) (fun hx => ?_)
      · walk_at "go"
        exact ⟨ys, hD12, szlt (by omega), Ev.put e89.src (e11.trans e12) hD, ys ++ [y], upd_same, by simp; omega⟩
      · exact ⟨e11.trans e12, ys, hD12, by omega⟩
    obtain ⟨e11, ys, hD11, hyl⟩ := hq
    have hys : ys.length ≤ 60 := by omega
    have hDS := e89.src.notin hD
    walk_at "go"
    refine ⟨S, a, _, rfl, ha, e11.src, by decide, by decide, fun c2 H12 g8 g9 e12 => ?_⟩
    have e912 := e89.trans (e11.trans e12)
    have e012 := e08.trans e912
    have hl12 := e912.at hlS hl8
    have hz12 := e912.at nlz hz8
    have hD12 := e12.at hDS hD11
    walk_at "go"
    have etk : (gd.map vn).take d = (gd.take d).map vn := by rw [List.map_take]
    have etl : ((gd.map vn).take d).length ≤ 60 := by rw [List.length_take, List.length_map]; omega
    refine iteD (fun hx => ?one) (fun hx => ?two)
    case one | two =>
      walk_at "go"
      refine ⟨sz1, fun l2 hl2 => ?_⟩
      have s13 : Same H12 (upd H12 l2 (.lst [v2])) := same_laid hl2
      have hl213 : (upd H12 l2 (.lst [v2])) l2 = some (.lst [v2]) := upd_same
      generalize upd H12 l2 (.lst [v2]) = H13 at *
      refine i_cat (s13 _ _ hl12) hl213 (by show _ + 1 ≤ _; omega) (fun l3 hl3 => ?_)
      have s14 : Same H13 (upd H13 l3 (.lst ((gd.map vn).take d ++ [v2]))) := same_laid hl3
      have hl314 : (upd H13 l3 (.lst ((gd.map vn).take d ++ [v2]))) l3 = some (.lst ((gd.map vn).take d ++ [v2])) := upd_same
      generalize upd H13 l3 (.lst ((gd.map vn).take d ++ [v2])) = H14 at *
      have s1214 := s13.trans s14
      walk_at "go"
      refine i_cat hl314 (s1214 _ _ hD12) (by rw [List.length_append]; show _ + 1 + _ ≤ _; omega) (fun l4 hl4 => ?_)
      have s15 : Same H14 (upd H14 l4 (.lst (((gd.map vn).take d ++ [v2]) ++ ys))) := same_laid hl4
      have hl415 : (upd H14 l4 (.lst (((gd.map vn).take d ++ [v2]) ++ ys))) l4 = some (.lst (((gd.map vn).take d ++ [v2]) ++ ys)) := upd_same
      generalize upd H14 l4 (.lst (((gd.map vn).take d ++ [v2]) ++ ys)) = H15 at *
      have s1215 := s1214.trans s15
      walk_at "go"
      first
        | (refine i_tupleOfL hl415 (fun l5 hl5 => ?_)
           have s16 : Same H15 (upd H15 l5 (.tup (((gd.map vn).take d ++ [v2]) ++ ys))) := same_laid hl5
           have hl516 : (upd H15 l5 (.tup (((gd.map vn).take d ++ [v2]) ++ ys))) l5 = some (sq true (((gd.map vn).take d ++ [v2]) ++ ys)) := upd_same
           generalize upd H15 l5 (.tup (((gd.map vn).take d ++ [v2]) ++ ys)) = H16 at *
           walk_at "go"
           refine ⟨sz2, fun q hq => ?_⟩
           have s1216 := s1215.trans s16
           rw [etk] at hl516
           exact k q _ (d : Int) _ (e012.trans (.of_same e012.src (s1216.trans (same_laid hq)))) (e012.free (same_free s1216 hq)) upd_same (fun H'' kk => gd_bad hd hk hv4 (kk _ _ nlz ((s1216.trans (same_laid hq)) _ _ hz12)) (by omega) hn (kk _ _ ((e012.trans (.of_same e012.src s1215)).src.notin hl5) (same_laid hq _ _ hl516))))
        | (refine ⟨sz2, fun q hq => ?_⟩
           have hl416 : H15 l4 = some (sq false (((gd.map vn).take d ++ [v2]) ++ ys)) := hl415
           rw [etk] at hl416
           exact k q _ (d : Int) _ (e012.trans (.of_same e012.src (s1215.trans (same_laid hq)))) (e012.free (same_free s1215 hq)) upd_same (fun H'' kk => gd_bad hd hk hv4 (kk _ _ nlz ((s1215.trans (same_laid hq)) _ _ hz12)) (by omega) hn (kk _ _ ((e012.trans (.of_same e012.src s1214)).src.notin hl4) (same_laid hq _ _ hl416))))
end
abbrev s_law_wrong_text : Stmt := top 63
theorem sc_law_wrong_text : FnScope ["source", "alphabet", "way", "outs", "odd", "text", "at", "behind", "k", "letter"] ["source", "alphabet"] (fnScope s_law_wrong_text) := ⟨rfl, rfl, rfl, by decide +kernel, rfl, by decide +kernel, by decide +kernel⟩
theorem fault_at {al z tl : List Nat} {c : Nat} (hz : ∀ x ∈ z, x ∈ al) (hc : c ∉ al) (hl : (z ++ c :: tl).length ≤ 40) : faultZ al 40 (z ++ c :: tl) = some (z.length : Int) := by
  unfold faultZ
  rw [if_neg (by omega)]
  have e : ((z ++ c :: tl).findIdx? fun c => decide (c ∉ al)) = some z.length := by
    clear hl
    induction z with
    | nil => simp [List.findIdx?_cons, hc]
    | cons x z ih =>
      have hx := hz x (by simp)
      have := ih (fun y hy => hz y (by simp [hy]))
      rw [List.cons_append, List.findIdx?_cons, this]
      simp [hx]
  rw [e]
  rfl
theorem out_ex {al : List Nat} (h : al.length ≤ 3) : ∃ c ∈ SMALL.cps.toList, c ∉ al := by
  by_cases h1 : (97 : Nat) ∈ al
  · by_cases h2 : (98 : Nat) ∈ al
    · by_cases h3 : (99 : Nat) ∈ al
      · refine ⟨100, small_mem (by omega), fun h4 => ?_⟩
        match al, h with
        | [], _ => simp at h1
        | [x], _ => simp at h1 h2; omega
        | [x, y], _ => simp at h1 h2 h3; omega
        | [x, y, z], _ => simp at h1 h2 h3 h4; omega
      · exact ⟨99, small_mem (by omega), h3⟩
    · exact ⟨98, small_mem (by omega), h2⟩
  · exact ⟨97, small_mem (by omega), h1⟩
theorem cut1_len (z : Str) (h : 1 ≤ z.length) : (cutS z (some 1) none).length = z.length - 1 := by
  show (((z.cps.toList.drop (HT.sIx z.length 0 (some 1))).take (HT.sIx z.length z.length none - HT.sIx z.length 0 (some 1))).toArray).size = z.cps.size - 1
  have h' : 1 ≤ z.cps.size := h
  have e1 : HT.sIx z.length 0 (some 1) = 1 := (HT.sIx_nat z.length 0 1).trans (Nat.min_eq_left h)
  have e2 : HT.sIx z.length z.length none = z.cps.size := rfl
  rw [e1, e2, List.size_toArray, List.length_take, List.length_drop, Array.length_toList]
  omega
theorem fault_len {al : List Nat} {s : Str} (h : 40 < s.length) : faultV al 40 (.str s) = some (-1) := by
  show faultZ al 40 s.cps.toList = some (-1)
  unfold faultZ
  rw [if_pos]
  have : s.cps.toList.length = s.length := Array.length_toList
  omega
theorem fault_S {al cs : List Nat} : faultV al 40 (.str (SX.S cs)) = faultZ al 40 cs := by
  show faultZ al 40 (SX.S cs).cps.toList = _
  rw [S_cps]
theorem word_in {al w z : List Nat} (h : Word al w z) : ∀ x ∈ z, x ∈ al := fun c hc => by
  obtain ⟨i, hi⟩ := List.mem_iff_getElem?.mp hc
  obtain ⟨a, _, _, h3⟩ := h.at hi
  exact List.mem_of_getElem? h3
def sp_law_wrong_text : Sp := fun vs H Q _ => ∃ (S : AS) (a : Addr) (al : List Nat), vs = [.ref a, .str (SX.S al)] ∧ S a ∧ Srcs S H ∧ AlOk al ∧
  ∀ q x tn (i : Int) H', Ev S H H' → H q = none → H' q = some (.lst [x, .int i]) → (∀ H'', Kp S H' H'' → Thg H'' x tn) → AlStr x → faultV al 40 x = some i → Q (.ref q) H'
section
variable {P : Program} {w : World} {K : PySem.W.Frag} {mg : Str → Option Value} {base : Heap} {C : Addr} {r : Er}
set_option maxHeartbeats 4000000 in
theorem ok_law_wrong_text {f : Addr} {fd : FuncData} (F : Def K mg "_law_wrong_text" s_law_wrong_text f fd) (T : Txt K mg C r) (b : Binds K fd ["source", "alphabet"] []) (c_law_pick : Cal P w K mg base 1 "_law_pick" sp_law_pick []) (c_law_letters : Cal P w K mg base 2 "_law_letters" sp_law_letters []) : Cal P w K mg base 3 "_law_wrong_text" (sp_law_wrong_text) [] := by
  refine cal0 F b .nil sc_law_wrong_text (fun vs H Q E h => ?_) (fun cdv A outer s H vs Q E hr h => ?_)
  · obtain ⟨_, _, _, rfl, _⟩ := h
    rfl
  · obtain ⟨S, a, al, rfl, hSa, hS, ha, k⟩ := h
    refine ⟨_, (pss_cons (ps_set (i := 2) sc_law_wrong_text.nd rfl (by first | exact Or.inl rfl | exact Or.inr rfl) (pe_c c_law_pick hr (by decide) rfl (pa_cons (pv 0) (pa_cons pe_int pa_nil))))
        (pss_cons (ps_if (pt_cmpR op_eq (pv 2) pe_int (nomark _)) (pss_one (ps_ret (pe_lst (pa_cons (pe_ix (ixK K rfl) (pe_lst (pa_cons pe_non (pa_cons pe_int (pa_cons pe_bl (pa_cons (pe_lst (pa_cons pe_str pa_nil)) (pa_cons (pe_tup pa_nil) (pa_cons pe_dnewK pa_nil))))))) (pe_c c_law_pick hr (by decide) rfl (pa_cons (pv 0) (pa_cons pe_int pa_nil))) (fun _ _ => rfl)) (pa_cons (pe_un un_neg pe_int) pa_nil))))) pss_nil)
        (pss_cons (ps_setLc (i := 3) (own := [("letter", 9)]) rfl sc_law_wrong_text.nd rfl rfl (sw_true rfl rfl rfl (by decide +kernel)) (pi_str pe_str) (blkOk_by (by kernel_rfl)) (fun _ _ _ _ _ => (pg_name (i := 9) sc_law_wrong_text.nd rfl (by first | exact Or.inl rfl | exact Or.inr rfl))) (fun _ _ _ _ _ => (pts_one (pt_cmpR op_notInSg (pv 9) (pv 1) rfl))) (fun _ _ _ _ _ => (pv 9)))
        (pss_cons (ps_set (i := 4) sc_law_wrong_text.nd rfl (by first | exact Or.inl rfl | exact Or.inr rfl) (pe_ix (ixK K rfl) (pe_lst (pa_cons pe_str (pa_cons pe_str (pa_cons pe_str (pa_cons pe_str (pa_cons pe_str (pa_cons (pe_ix (ixK K rfl) (pv 3) (pe_c c_law_pick hr (by decide) rfl (pa_cons (pv 0) (pa_cons (pe_callB (lenK K rfl) (by rfl) T.b_len (by decide +kernel) (pa_cons (pv 3) pa_nil)) pa_nil))) (fun _ _ => rfl)) pa_nil))))))) (pe_c c_law_pick hr (by decide) rfl (pa_cons (pv 0) (pa_cons pe_int pa_nil))) (fun _ _ => rfl)))
        (pss_cons (ps_if (pt_cmpR op_eq (pv 2) pe_int (nomark _)) (pss_cons (ps_set (i := 5) sc_law_wrong_text.nd rfl (by first | exact Or.inl rfl | exact Or.inr rfl) (pe_c c_law_letters hr (by decide) rfl (pa_cons (pv 0) (pa_cons (pv 1) (pa_cons pe_int pa_nil)))))
        (pss_cons (ps_if (pt_cmpR op_eq (pe_c c_law_pick hr (by decide) rfl (pa_cons (pv 0) (pa_cons pe_int pa_nil))) pe_int (nomark _)) (pss_one (ps_set (i := 5) sc_law_wrong_text.nd rfl (by first | exact Or.inl rfl | exact Or.inr rfl) (pe_op op_add_str (pv 4) (pe_slice sl_str (pv 5) (po_some pe_int) po_none)))) pss_nil)
        (pss_one (ps_ret (pe_lst (pa_cons (pv 5) (pa_cons (pe_un un_neg pe_int) pa_nil))))))) pss_nil)
        (pss_cons (ps_set (i := 6) sc_law_wrong_text.nd rfl (by first | exact Or.inl rfl | exact Or.inr rfl) (pe_c c_law_pick hr (by decide) rfl (pa_cons (pv 0) (pa_cons pe_int pa_nil))))
        (C8.pss_cut (ps_if (pt_cmpR op_eq (pv 2) pe_int (nomark _)) (pss_one (ps_set (i := 6) sc_law_wrong_text.nd rfl (by first | exact Or.inl rfl | exact Or.inr rfl) (pe_c c_law_pick hr (by decide) rfl (pa_cons (pv 0) (pa_cons pe_int pa_nil))))) pss_nil)
        (pss_cons (ps_set (i := 7) sc_law_wrong_text.nd rfl (by first | exact Or.inl rfl | exact Or.inr rfl) (pe_c c_law_pick hr (by decide) rfl (pa_cons (pv 0) (pa_cons (pe_callB (call_min2 rfl) (by rfl) T.b_min (by decide +kernel) (pa_cons pe_int (pa_cons (pe_op op_sub pe_int (pv 6)) pa_nil))) pa_nil))))
        (pss_cons (ps_set (i := 5) sc_law_wrong_text.nd rfl (by first | exact Or.inl rfl | exact Or.inr rfl) (pe_op op_add_str (pe_c c_law_letters hr (by decide) rfl (pa_cons (pv 0) (pa_cons (pv 1) (pa_cons (pv 6) pa_nil)))) (pv 4)))
        (pss_cons (ps_for PassesOwn.never rfl (pi_range1 (by rfl) T.b_range (pa_cons (pv 7) pa_nil)) (pg_name (i := 8) sc_law_wrong_text.nd rfl (by first | exact Or.inl rfl | exact Or.inr rfl))
        (pss_one (ps_set (i := 5) sc_law_wrong_text.nd rfl (by first | exact Or.inl rfl | exact Or.inr rfl) (pe_op op_add_str (pv 5) (pe_ifExp (pt_cmpR op_eq (pe_c c_law_pick hr (by decide) rfl (pa_cons (pv 0) (pa_cons pe_int pa_nil))) pe_int (nomark _)) (pv 4) (pe_ix (ixK K rfl) (pv 1) pe_int (fun _ _ => rfl)))))))
        (pss_one (ps_ret (pe_lst (pa_cons (pv 5) (pa_cons (pv 6) pa_nil))))))))))))))), ?_⟩
    have hpos := ha.pos
    have hle := ha.le
    have hla : (SX.S al).length = al.length := SX.S_len al
    walk_at "go"
    refine ⟨S, a, _, rfl, hSa, hS, by decide, by decide, fun way H1 g0 g1 e1 => ?_⟩
    walk_at "go"
    refine iteD (fun hx => ?_) (fun hx => ?_)
    · walk_at "go"
      refine ⟨sz1, fun l1 hl1 => ?_⟩
      have e2 := Ev.laid (o := .lst [.str "a"]) e1.src hl1
      have h1 : (upd H1 l1 (.lst [.str "a"])) l1 = some (.lst [.str "a"]) := upd_same
      have n1 := e1.src.notin hl1
      generalize upd H1 l1 (.lst [.str "a"]) = H2 at *
      walk_at "go"
      refine ⟨szl (by show 0 ≤ 16777216; decide), fun l2 hl2 => ?_⟩
      have e3 := Ev.laid (o := .tup []) e2.src hl2
      have h2 : (upd H2 l2 (.tup [])) l2 = some (.tup []) := upd_same
      have n2 := e2.src.notin hl2
      generalize upd H2 l2 (.tup []) = H3 at *
      walk_at "go"
      intro l3 hl3
      have e4 := Ev.laid (o := .dK []) e3.src hl3
      have h3 : (upd H3 l3 (.dK [])) l3 = some (.dK []) := upd_same
      have n3 := e3.src.notin hl3
      generalize upd H3 l3 (.dK []) = H4 at *
      walk_at "go"
      refine ⟨szl (by show 6 ≤ 16777216; decide), fun p hp => ?_⟩
      have e5 := Ev.laid (o := .lst [.non, .int 5, .bl true, .ref l1, .ref l2, .ref l3]) e4.src hp
      have h5 : (upd H4 p (.lst [.non, .int 5, .bl true, .ref l1, .ref l2, .ref l3])) p = some (.lst [.non, .int 5, .bl true, .ref l1, .ref l2, .ref l3]) := upd_same
      have n5 := e4.src.notin hp
      generalize upd H4 p (.lst [.non, .int 5, .bl true, .ref l1, .ref l2, .ref l3]) = H5 at *
      walk_at "go"
      refine ⟨S, a, _, rfl, hSa, e5.src, by decide, by decide, fun d H6 g2 g3 e6 => ?_⟩
      have h16 := (e3.trans (e4.trans (e5.trans e6))).at n1 h1
      have h26 := (e4.trans (e5.trans e6)).at n2 h2
      have h36 := (e5.trans e6).at n3 h3
      have hp6 := e6.at n5 h5
      have e06 := e1.trans (e2.trans (e3.trans (e4.trans (e5.trans e6))))
      have hd : d = 0 ∨ d = 1 ∨ d = 2 ∨ d = 3 ∨ d = 4 ∨ d = 5 := by omega
      have fin : ∃ x tn, atI ([.non, .int 5, .bl true, .ref l1, .ref l2, .ref l3] : List V) d = some x ∧ (∀ H'', Kp S H6 H'' → Thg H'' x tn) ∧ AlStr x ∧ faultV al 40 x = some (-1) := by
        rcases hd with rfl | rfl | rfl | rfl | rfl | rfl
        · exact ⟨_, _, rfl, fun _ _ => .non, fun _ e => (by cases e), rfl⟩
        · exact ⟨_, _, rfl, fun _ _ => .int _, fun _ e => (by cases e), rfl⟩
        · exact ⟨_, _, rfl, fun _ _ => .bl _, fun _ e => (by cases e), rfl⟩
        · exact ⟨_, _, rfl, fun _ kk => .lst (kk _ _ n1 h16), fun _ e => (by cases e), rfl⟩
        · exact ⟨_, _, rfl, fun _ kk => .tup (kk _ _ n2 h26), fun _ e => (by cases e), rfl⟩
        · exact ⟨_, _, rfl, fun _ kk => .dct (kk _ _ n3 h36), fun _ e => (by cases e), rfl⟩
      obtain ⟨x, tn, hx1, hx2, hx3, hx4⟩ := fin
      refine i_ixL hp6 hx1 ?_
      walk_at "go"
      refine ⟨sz2, fun q hq => ?_⟩
      exact k q x tn (-1) _ (e06.trans (.laid e06.src hq)) (e06.free hq) upd_same (fun H'' kk => hx2 H'' ((Kp.of_same (same_laid hq)).trans kk)) hx3 hx4
    walk_at "go"
    intro D hD
    have hD1 := e1.src.notin hD
    refine str_lc (fun i H' => H' = upd H1 D (.lst (((SMALL.cps.toList.take i).filter fun c => decide (c ∉ al)).map fun c => .str ⟨#[c]⟩))) rfl (fun i c H' hc p => ?_) (fun H' p => ?_)
    · subst p
      have z : SMALL.cps.toList[i]? = some c := by
        rw [Array.getElem?_toList]
        exact hc
      have hi : i < SMALL.cps.toList.length := (List.getElem?_eq_some_iff.mp z).1
      have h26 : SMALL.cps.toList.length = 26 := by decide +kernel
      have hlf : (((SMALL.cps.toList.take i).filter fun c => decide (c ∉ al)).map fun c => V.str ⟨#[c]⟩).length < 16777216 := by
        rw [List.length_map]
        have := List.length_filter_le (fun c => decide (c ∉ al)) (SMALL.cps.toList.take i)
        rw [List.length_take] at this
        omega
      walk_at "go"
      by_cases hm : c ∈ al
      · refine ite_ndf hm ?_
        show _ = _
        rw [take_at z, List.filter_append]
        simp [hm]
      · refine ite_ndt hm ?_
        walk_at "go"
        exact ⟨_, upd_same, szlt hlf, upd_lst (by rw [take_at z, List.filter_append, List.map_append]; simp [hm])⟩
    subst p
    have etake : (SMALL.cps.toList.take SMALL.cps.size) = SMALL.cps.toList := List.take_of_length_le (by rw [Array.length_toList]; exact Nat.le_refl _)
    have hout : ∀ c, c ∈ (SMALL.cps.toList.filter fun c => decide (c ∉ al)) → c ∉ al := fun c hc => by
      have := (List.mem_filter.mp hc).2
      simpa using this
    have hne : 0 < (SMALL.cps.toList.filter fun c => decide (c ∉ al)).length := by
      obtain ⟨c, h1, h2⟩ := out_ex hle
      exact List.length_pos_of_mem (List.mem_filter.mpr ⟨h1, by simp [h2]⟩)
    have hlo : (SMALL.cps.toList.filter fun c => decide (c ∉ al)).length ≤ 26 := by
      have := List.length_filter_le (fun c => decide (c ∉ al)) SMALL.cps.toList
      have h26 : SMALL.cps.toList.length = 26 := by decide +kernel
      omega
    have e2 := Ev.laid (o := .lst (((SMALL.cps.toList.take SMALL.cps.size).filter fun c => decide (c ∉ al)).map fun c => .str ⟨#[c]⟩)) e1.src hD
    have hD2 : (upd H1 D (.lst (((SMALL.cps.toList.take SMALL.cps.size).filter fun c => decide (c ∉ al)).map fun c => .str ⟨#[c]⟩))) D = some (.lst ((SMALL.cps.toList.filter fun c => decide (c ∉ al)).map fun c => .str ⟨#[c]⟩)) := by rw [upd_same, etake]
    rw [show ("abcdefghijklmnopqrstuvwxyz" : Str) = SMALL from rfl]
    generalize upd H1 D (.lst (((SMALL.cps.toList.take SMALL.cps.size).filter fun c => decide (c ∉ al)).map fun c => .str ⟨#[c]⟩)) = H2 at *
    generalize (SMALL.cps.toList.filter fun c => decide (c ∉ al)) = outs at *
    walk_at "go"
    rw [List.length_map]
    refine ⟨S, a, _, rfl, hSa, e2.src, by omega, by omega, fun d H3 g2 g3 e3 => ?_⟩
    obtain ⟨d, rfl⟩ := Int.eq_ofNat_of_zero_le g2
    have hd : d < outs.length := by omega
    have hD3 := e3.at hD1 hD2
    refine i_ixL hD3 (atI_nat (map_at (f := fun c => V.str ⟨#[c]⟩) (List.getElem?_eq_getElem hd))) ?_
    walk_at "go"
    refine ⟨szl (by show 6 ≤ 16777216; decide), fun p hp => ?_⟩
    have e4 := Ev.laid (o := .lst [.str "A", .str "0", .str " ", .str "~", .str "\n", .str ⟨#[outs[d]]⟩]) e3.src hp
    have h4 : (upd H3 p (.lst [.str "A", .str "0", .str " ", .str "~", .str "\n", .str ⟨#[outs[d]]⟩])) p = some (.lst [.str "A", .str "0", .str " ", .str "~", .str "\n", .str ⟨#[outs[d]]⟩]) := upd_same
    have n4 := e3.src.notin hp
    generalize upd H3 p (.lst [.str "A", .str "0", .str " ", .str "~", .str "\n", .str ⟨#[outs[d]]⟩]) = H4 at *
    walk_at "go"
    refine ⟨S, a, _, rfl, hSa, e4.src, by decide, by decide, fun c5 H5 g4 g5 e5 => ?_⟩
    have hp5 := e5.at n4 h4
    have e05 := e1.trans (e2.trans (e3.trans (e4.trans e5)))
    have hsm : ∀ c, ¬ 97 ≤ c → c ∉ al := fun c h z => h (ha.small c z).1
    have hbig : (126 : Nat) ∉ al := fun z => by have := (ha.small 126 z).2; omega
    have fin : ∃ c : Nat, c ∉ al ∧ atI ([.str "A", .str "0", .str " ", .str "~", .str "\n", .str ⟨#[outs[d]]⟩] : List V) c5 = some (.str (SX.S [c])) := by
      have hc : c5 = 0 ∨ c5 = 1 ∨ c5 = 2 ∨ c5 = 3 ∨ c5 = 4 ∨ c5 = 5 := by omega
      rcases hc with rfl | rfl | rfl | rfl | rfl | rfl
      · exact ⟨65, hsm _ (by decide), rfl⟩
      · exact ⟨48, hsm _ (by decide), rfl⟩
      · exact ⟨32, hsm _ (by decide), rfl⟩
      · exact ⟨126, hbig, rfl⟩
      · exact ⟨10, hsm _ (by decide), rfl⟩
      · exact ⟨outs[d], hout _ (List.getElem_mem hd), rfl⟩
    obtain ⟨c, hc, hcv⟩ := fin
    refine i_ixL hp5 hcv ?_
    have hc1 : (SX.S [c]).length = 1 := SX.S_len [c]
    walk_at "go"
    refine iteD (fun hx => ?_) (fun hx => ?_)
    · walk_at "go"
      refine ⟨S, a, al, 41, rfl, hSa, e05.src, ha, by omega, fun z w H6 hz hzw e6 => ?_⟩
      have hzl : (SX.S z).length = 41 := (SX.S_len z).trans hz
      walk_at "go"
      refine ⟨S, a, _, rfl, hSa, e6.src, by decide, by decide, fun c7 H7 g6 g7 e7 => ?_⟩
      have e07 := e05.trans (e6.trans e7)
      walk_at "go"
      refine iteD (fun hy => ?_) (fun hy => ?_)
      · walk_at "go"
        refine ⟨SX.S z, rfl, szl (by omega), ?_⟩
        have hcl := cut1_len (SX.S z) (by omega)
        walk_at "go"
        refine ⟨_, _, rfl, rfl, by rw [sizeLine_eq]; omega, ?_⟩
        walk_at "go"
        refine ⟨sz2, fun q hq => ?_⟩
        have hL : (SX.S [c] ++ cutS (SX.S z) (some 1) none).length = 41 := by rw [Str.length_append]; omega
        exact k q _ _ (-1) _ (e07.trans (.laid e07.src hq)) (e07.free hq) upd_same (fun _ _ => .str _) (alstr (by omega)) (fault_len (by omega))
      · walk_at "go"
        refine ⟨sz2, fun q hq => ?_⟩
        exact k q _ _ (-1) _ (e07.trans (.laid e07.src hq)) (e07.free hq) upd_same (fun _ _ => .str _) (alstr (by omega)) (fault_len (by omega))
    walk_at "go"
    refine ⟨S, a, _, rfl, hSa, e05.src, by decide, by decide, fun d6 H6 g6 g7 e6 => ?_⟩
    have e06 := e05.trans e6
    walk_at "go"
    refine i_cut (fun σ H7 => ∃ d : Nat, d < 40 ∧ σ = [some (.ref a), some (.str (SX.S al)), some (.int way), some (.ref D), some (.str (SX.S [c])), none, some (vn d), none, none, none] ∧ Ev S H H7) ?_ (fun σ H7 hq => ?_)
    · walk_at "go"
      refine iteD (fun hy => ?_) (fun hy => ?_)
      · walk_at "go"
        refine ⟨S, a, _, rfl, hSa, e06.src, by decide, by decide, fun d7 H7 g8 g9 e7 => ?_⟩
        obtain ⟨d7, rfl⟩ := Int.eq_ofNat_of_zero_le g8
        exact ⟨d7, by omega, rfl, e06.trans e7⟩
      · walk_at "go"
        obtain ⟨d6, rfl⟩ := Int.eq_ofNat_of_zero_le g6
        exact ⟨d6, by omega, rfl, e06⟩
    obtain ⟨n, hn, rfl, e07⟩ := hq
    walk_at "go"
    refine ⟨_, _, rfl, ?_⟩
    generalize hmn : (if (40 : Int) - (n : Int) < 8 then (40 : Int) - (n : Int) else 8) = mn
    have hmn2 : 0 < mn ∧ mn ≤ 8 ∧ mn ≤ 40 - (n : Int) := by
      split at hmn <;> omega
    walk_at "go"
    refine ⟨S, a, _, rfl, hSa, e07.src, by omega, by omega, fun b8 H8 g8 g9 e8 => ?_⟩
    obtain ⟨b8, rfl⟩ := Int.eq_ofNat_of_zero_le g8
    have e08 := e07.trans e8
    walk_at "go"
    refine ⟨S, a, al, n, rfl, hSa, e08.src, ha, by omega, fun z w H9 hz hzw e9 => ?_⟩
    have e09 := e08.trans e9
    have hzl : (SX.S z).length = n := (SX.S_len z).trans hz
    walk_at "go"
    refine ⟨_, _, rfl, rfl, by rw [sizeLine_eq]; omega, ?_⟩
    walk_at "go"
    refine ⟨by omega, by omega, ?_⟩
    rw [show ((b8 : Nat) : Int).toNat = b8 from Int.toNat_natCast b8, SX.S_cat]
    refine rng0_for (fun i σ H10 => ∃ (x8 : Option V) (tl : List Nat), tl.length = i ∧ σ = [some (.ref a), some (.str (SX.S al)), some (.int way), some (.ref D), some (.str (SX.S [c])), some (.str (SX.S (z ++ c :: tl))), some (vn n), some (vn b8), x8, none] ∧ Ev S H H10) ⟨none, [], rfl, rfl, e09⟩ (fun i σ H10 hi hq => ?_) (fun σ H10 hq => ?_)
    · obtain ⟨x8, tl, htl, rfl, e010⟩ := hq
      have hL : (SX.S (z ++ c :: tl)).length = n + 1 + i := by
        rw [SX.S_len, List.length_append, List.length_cons]
        omega
      walk_at "go"
      refine ⟨S, a, _, rfl, hSa, e010.src, by decide, by decide, fun c11 H11 g10 g11 e11 => ?_⟩
      have e011 := e010.trans e11
      walk_at "go"
      refine iteD (fun hy => ?_) (fun hy => ?_)
      · walk_at "go"
        refine ⟨_, _, rfl, rfl, by rw [sizeLine_eq]; omega, ?_⟩
        rw [SX.S_cat]
        walk_at "go"
        exact ⟨_, tl ++ [c], by simp [htl], by rw [show z ++ c :: (tl ++ [c]) = (z ++ c :: tl) ++ [c] by simp]; rfl, e011⟩
      · walk_at "go"
        have h0 : al[0]? = some (al[0]'(by omega)) := List.getElem?_eq_getElem _
        refine i_ixS (szl (by omega)) (S_at (i := 0) h0) ?_
        refine ⟨_, _, rfl, rfl, by rw [sizeLine_eq]; show _ + 1 ≤ _; omega, ?_⟩
        rw [show (⟨#[al[0]'(by omega)]⟩ : Str) = SX.S [al[0]'(by omega)] from rfl, SX.S_cat]
        walk_at "go"
        exact ⟨_, tl ++ [al[0]'(by omega)], by simp [htl], by rw [show z ++ c :: (tl ++ [al[0]'(by omega)]) = (z ++ c :: tl) ++ [al[0]'(by omega)] by simp]; rfl, e011⟩
    obtain ⟨x8, tl, htl, rfl, e010⟩ := hq
    walk_at "go"
    refine ⟨sz2, fun q hq => ?_⟩
    have hl40 : (z ++ c :: tl).length ≤ 40 := by
      rw [List.length_append, List.length_cons]
      omega
    refine k q _ _ (n : Int) _ (e010.trans (.laid e010.src hq)) (e010.free hq) upd_same (fun _ _ => .str _) (alstr (by rw [SX.S_len]; omega)) ?_
    rw [fault_S, fault_at (word_in hzw) hc hl40, hz]
end
abbrev s_law_refused : Stmt := top 64
theorem sc_law_refused : FnScope ["source", "alphabet", "told", "moves", "good", "wrong", "bent", "shut", "due"] ["source", "alphabet", "told"] (fnScope s_law_refused) := ⟨rfl, rfl, rfl, by decide +kernel, rfl, by decide +kernel, by decide +kernel⟩
theorem i_neLL {K : PySem.W.Frag} {H : Hp} {Q : VK} {l m x y d : Addr} {ws : List Str} (hok : ∀ z ∈ ws, PyData.strOk z = true) (hl : H l = some (.lst [.ref x, .ref y])) (hx : H x = some (.lst (ws.map V.str))) (hy : H y = some (.lst (ws.map V.str))) (hm : H m = some (.lst [.ref d, .ref d])) (hd : H d = some (.lst (ws.map V.str))) (q : Q (.bl false) H) : rNeD K (.ref l) (.ref m) H Q := by
  have h1 := lay_strs ws hok
  have e : PyData.eqv (.list [dStrsL ws, dStrsL ws]) (.list [dStrsL ws, dStrsL ws]) = true := by
    simp [PyData.eqv, PyData.eqvAll, dStrsL, eqvAll_strs]
  have sh : SeqAt.shaped (.list [dStrsL ws, dStrsL ws]) = true := by
    unfold SeqAt.shaped
    simp [PyData.canLay0, PyData.canLayAll0, PyData.depth, PyData.depthAll, dStrsL, h1.1, h1.2]
  exact ⟨.list [dStrsL ws, dStrsL ws], .list [dStrsL ws, dStrsL ws], .lst (SqL.of hl) (.cons (.lst (SqL.of hx) (dp_strs _)) (.cons (.lst (SqL.of hy) (dp_strs _)) .nil)), .lst (SqL.of hm) (.cons (.lst (SqL.of hd) (dp_strs _)) (.cons (.lst (SqL.of hd) (dp_strs _)) .nil)), sh, sh, by rw [e]; exact q⟩
theorem aW_ok {z : Str} (h : PyData.strOk z = true) : ∀ w ∈ aW z, PyData.strOk w = true := fun w hw => by
  simp only [aW, List.mem_cons, List.not_mem_nil, or_false] at hw
  rcases hw with rfl | rfl | rfl
  · decide +kernel
  · exact strOk_app (by decide +kernel) h
  · decide +kernel
theorem iW_ok {i : Int} {z : Str} (h : PyData.strOk z = true) : ∀ w ∈ iW i z, PyData.strOk w = true := fun w hw => by
  simp only [iW, List.mem_cons, List.not_mem_nil, or_false] at hw
  rcases hw with rfl | rfl | rfl
  · decide +kernel
  · exact strOk_app (by decide +kernel) (strOk_of _)
  · exact h
theorem log_le {i : Int} (h : -1 ≤ i ∧ i ≤ 1000000) : i.natAbs.log2 < 1920 := by
  rcases fmt_int h with ⟨y, e, _⟩ | ⟨j, e, hj⟩
  · cases e
  · cases e
    exact hj
theorem pick2 {A B : V} {c : Int} (h0 : 0 ≤ c) (h1 : c < 2) : ∃ v, atI ([A, B] : List V) c = some v := by
  have hc : c = 0 ∨ c = 1 := by omega
  rcases hc with rfl | rfl
  · exact ⟨_, rfl⟩
  · exact ⟨_, rfl⟩
def sp_law_refused (K : PySem.W.Frag) (C : Addr) (r : Er) : Sp := fun vs H Q _ => ∃ (S : AS) (a : Addr) (al : List Nat) (p : Addr) (rs : Rws) (gd : List Nat), vs = [.ref a, .str (SX.S al), .ref p] ∧ S a ∧ Srcs S H ∧ MachL S H p rs gd ∧ AlOk al ∧ WF al.length rs ∧ GOK rs.length gd ∧ ∀ H', Ev S H H' → Q (.bl true) H'
section
variable {P : Program} {w : World} {K : PySem.W.Frag} {mg : Str → Option Value} {base : Heap} {C : Addr} {r : Er}
set_option maxHeartbeats 4000000 in
theorem ok_law_refused {f : Addr} {fd : FuncData} (F : C8.Def K mg "_law_refused" s_law_refused f fd) (T : Txt K mg C r) (b : Binds K fd ["source", "alphabet", "told"] []) (c_law_wrong_alphabet : Cal P w K mg base 2 "_law_wrong_alphabet" (sp_law_wrong_alphabet K) []) (c_law_wrong_moves : Cal P w K mg base 2 "_law_wrong_moves" sp_law_wrong_moves []) (c_law_wrong_good : Cal P w K mg base 2 "_law_wrong_good" sp_law_wrong_good []) (c_law_making : CalG P w K mg base 7 "_law_making" (sp_law_making K C r)) (c_law_pick : Cal P w K mg base 1 "_law_pick" sp_law_pick []) (c_law_filling : CalG P w K mg base 9 "_law_filling" (sp_law_filling K C r)) : CalG P w K mg base 10 "_law_refused" (sp_law_refused K C r) := by
  refine ⟨f, fd, ["source", "alphabet", "told"], fnG0 F.fn sc_law_refused (fun vs H Q E h => ?_) (fun cdv A outer s H vs Q E hr hG h => ?_), F.mgf, F.kp, b⟩
  · obtain ⟨_, _, _, _, _, _, rfl, _⟩ := h
    rfl
  · obtain ⟨S, a, al, p, rs, gd, rfl, hSa, hS, hp, ha, hw, hg, k⟩ := h
    refine ⟨_, (pss_cons (ps_set (i := 3) sc_law_refused.nd rfl (by first | exact Or.inl rfl | exact Or.inr rfl) (pe_ix (ixK K rfl) (pv 2) pe_int (fun _ _ => rfl)))
        (pss_cons (ps_set (i := 4) sc_law_refused.nd rfl (by first | exact Or.inl rfl | exact Or.inr rfl) (pe_ix (ixK K rfl) (pv 2) pe_int (fun _ _ => rfl)))
        (pss_cons (ps_set (i := 5) sc_law_refused.nd rfl (by first | exact Or.inl rfl | exact Or.inr rfl) (pe_c c_law_wrong_alphabet hr (by decide) rfl (pa_cons (pv 0) pa_nil)))
        (pss_cons (ps_set (i := 6) sc_law_refused.nd rfl (by first | exact Or.inl rfl | exact Or.inr rfl) (pe_c c_law_wrong_moves hr (by decide) rfl (pa_cons (pv 0) (pa_cons (pv 3) (pa_cons (pe_callB (lenK K rfl) (by rfl) T.b_len (by decide +kernel) (pa_cons (pv 1) pa_nil)) pa_nil)))))
        (pss_cons (ps_set (i := 7) sc_law_refused.nd rfl (by first | exact Or.inl rfl | exact Or.inr rfl) (pe_c c_law_wrong_good hr (by decide) rfl (pa_cons (pv 0) (pa_cons (pe_callB (lenK K rfl) (by rfl) T.b_len (by decide +kernel) (pa_cons (pv 3) pa_nil)) (pa_cons (pv 4) pa_nil)))))
        (pss_cons (ps_set (i := 8) sc_law_refused.nd rfl (by first | exact Or.inl rfl | exact Or.inr rfl) (pe_lst (pa_cons pe_str (pa_cons (pe_op op_add_str pe_str (pe_callB (call_reprD K rfl hG (huH (L2H.roomH_of hr))) (by rfl) T.b_repr (by decide +kernel) (pa_cons (pv 5) pa_nil))) (pa_cons pe_str pa_nil)))))
        (pss_cons (ps_if (pt_cmpR (neDK K rfl hr.units) (pe_cG c_law_making hr (by decide) hG rfl (pa_cons (pv 5) (pa_cons (pe_ix (ixK K rfl) (pe_lst (pa_cons (pv 3) (pa_cons (pe_ix (ixK K rfl) (pv 6) pe_int (fun _ _ => rfl)) pa_nil))) (pe_c c_law_pick hr (by decide) rfl (pa_cons (pv 0) (pa_cons pe_int pa_nil))) (fun _ _ => rfl)) (pa_cons (pe_ix (ixK K rfl) (pe_lst (pa_cons (pv 4) (pa_cons (pe_ix (ixK K rfl) (pv 7) pe_int (fun _ _ => rfl)) pa_nil))) (pe_c c_law_pick hr (by decide) rfl (pa_cons (pv 0) (pa_cons pe_int pa_nil))) (fun _ _ => rfl)) pa_nil)))) (pv 8) (nomark _)) (pss_one (ps_ret pe_bl)) pss_nil)
        (pss_cons (ps_if (pt_cmpR (neDK K rfl hr.units) (pe_cG c_law_filling hr (by decide) hG rfl (pa_cons (pv 5) pa_nil)) (pe_lst (pa_cons (pv 8) (pa_cons (pv 8) pa_nil))) (nomark _)) (pss_one (ps_ret pe_bl)) pss_nil)
        (pss_cons (ps_set (i := 8) sc_law_refused.nd rfl (by first | exact Or.inl rfl | exact Or.inr rfl) (pe_lst (pa_cons pe_str (pa_cons (pe_op op_add_str pe_str (pe_callTy call_str_int (by rfl) T.b_str (by decide +kernel) (pa_cons (pe_ix (ixK K rfl) (pv 6) pe_int (fun _ _ => rfl)) pa_nil))) (pa_cons pe_str pa_nil)))))
        (pss_cons (ps_if (pt_cmpR (neDK K rfl hr.units) (pe_cG c_law_making hr (by decide) hG rfl (pa_cons (pv 1) (pa_cons (pe_ix (ixK K rfl) (pv 6) pe_int (fun _ _ => rfl)) (pa_cons (pe_ix (ixK K rfl) (pe_lst (pa_cons (pv 4) (pa_cons (pe_ix (ixK K rfl) (pv 7) pe_int (fun _ _ => rfl)) pa_nil))) (pe_c c_law_pick hr (by decide) rfl (pa_cons (pv 0) (pa_cons pe_int pa_nil))) (fun _ _ => rfl)) pa_nil)))) (pv 8) (nomark _)) (pss_one (ps_ret pe_bl)) pss_nil)
        (pss_cons (ps_set (i := 8) sc_law_refused.nd rfl (by first | exact Or.inl rfl | exact Or.inr rfl) (pe_lst (pa_cons pe_str (pa_cons (pe_op op_add_str pe_str (pe_callTy call_str_int (by rfl) T.b_str (by decide +kernel) (pa_cons (pe_ix (ixK K rfl) (pv 7) pe_int (fun _ _ => rfl)) pa_nil))) (pa_cons pe_str pa_nil)))))
        (pss_one (ps_ret (pe_and (pe_cmpR (eqDK K rfl hr.units) (pe_cG c_law_making hr (by decide) hG rfl (pa_cons (pv 1) (pa_cons (pv 3) (pa_cons (pe_ix (ixK K rfl) (pv 7) pe_int (fun _ _ => rfl)) pa_nil)))) (pv 8) (nomark _)) (pe_one (pe_cmpR (eqDK K rfl hr.units) (pe_cG c_law_making hr (by decide) hG rfl (pa_cons (pv 1) (pa_cons (pv 3) (pa_cons (pv 4) pa_nil)))) (pe_lst pa_nil) (nomark _))))))))))))))))), ?_⟩
    obtain ⟨hpS, pm, pg, hp1, hm, hg1⟩ := hp
    have hpos := ha.pos
    have hle3 := ha.le
    have hle := hw.le
    have hrpos := hw.pos
    have hl : (SX.S al).length = al.length := SX.S_len al
    walk_at "go"
    refine ⟨S, a, rfl, hSa, hS, fun x tn D H1 e1 hx hzs hb => ?_⟩
    walk_at "go"
    refine i_lenS (szl (by omega)) ?_
    rw [hl]
    walk_at "go"
    refine ⟨S, a, pm, rs, al.length, rfl, hSa, e1.src, hm.ev e1, hw, hpos, fun q1 xb ib H2 e2 hq10 hq1 hmv => ?_⟩
    have hq1S := e1.src.notin hq10
    have e02 := e1.trans e2
    obtain ⟨hmS, as, hm1, hm2⟩ := id hm
    have hlen : (as.map V.ref).length = rs.length := by rw [List.length_map, hm2.length]
    have hm12 := e02.at hmS hm1
    walk_at "go"
    rw [hlen]
    refine ⟨S, a, rs.length, pg, gd, rfl, hSa, e02.src, hg1.ev e02, hg, hrpos, hle, fun q2 xs is H3 e3 hq20 hq2 hgd => ?_⟩
    have hq2S := e02.src.notin hq20
    have e03 := e02.trans e3
    have hq13 := e3.at hq1S hq1
    have hm3 := hm.ev e03
    have hg3 := hg1.ev e03
    have kp13 := (e2.trans e3).kp
    have hx3 := hx H3 kp13
    have hmb3 := hmv H3 e3.kp
    have hib := mvBad_le hmb3
    have his := gdBad_le (hgd H3 .refl)
    clear hm12 hm1 hm2
    walk_at "go"
    refine ⟨x, D, rfl, hx3.2.d, hx3.2.s, hx3.2.n, hx3.2.p, by have := hx3.2.l; rw [sizeLine_eq]; omega, ?_⟩
    walk_at "go"
    refine ⟨_, _, rfl, rfl, ?_, ?_⟩
    · rw [sizeLine_eq]
      have : ("thing " : Str).length = 6 := by decide +kernel
      have := hx3.2.l
      omega
    walk_at "go"
    refine ⟨sz3, fun d1 hd1 => ?_⟩
    have e34 := Ev.laid (o := .lst [.str "value", .str ("thing " ++ D.shown), .str "alphabet"]) e03.src hd1
    have h14 : Tells (upd H3 d1 (.lst [.str "value", .str ("thing " ++ D.shown), .str "alphabet"])) d1 (aW D.shown) := upd_same
    have hd1S := e03.src.notin hd1
    generalize upd H3 d1 (.lst [.str "value", .str ("thing " ++ D.shown), .str "alphabet"]) = H4 at *
    have hq14 := e34.at hq1S hq13
    have hq24 := e34.at hq2S hq2
    walk_at "go"
    refine ⟨sz2, fun L1 hL1 => ?_⟩
    have e45 := Ev.laid (o := .lst [.ref pm, xb]) e34.src hL1
    have hL15 : (upd H4 L1 (.lst [.ref pm, xb])) L1 = some (.lst [.ref pm, xb]) := upd_same
    have hL1S := e34.src.notin hL1
    generalize upd H4 L1 (.lst [.ref pm, xb]) = H5 at *
    walk_at "go"
    refine ⟨S, a, _, rfl, hSa, e45.src, by decide, by decide, fun c1 H6 g0 g1 e56 => ?_⟩
    obtain ⟨v1, hv1⟩ := pick2 (A := .ref pm) (B := xb) g0 g1
    refine i_ixL (e56.at hL1S hL15) hv1 ?_
    have hq26 := (e45.trans e56).at hq2S hq24
    walk_at "go"
    refine ⟨sz2, fun L2 hL2 => ?_⟩
    have e67 := Ev.laid (o := .lst [.ref pg, xs]) e56.src hL2
    have hL27 : (upd H6 L2 (.lst [.ref pg, xs])) L2 = some (.lst [.ref pg, xs]) := upd_same
    have hL2S := e56.src.notin hL2
    generalize upd H6 L2 (.lst [.ref pg, xs]) = H7 at *
    walk_at "go"
    refine ⟨S, a, _, rfl, hSa, e67.src, by decide, by decide, fun c2 H8 g2 g3 e78 => ?_⟩
    obtain ⟨v2, hv2⟩ := pick2 (A := .ref pg) (B := xs) g2 g3
    refine i_ixL (e78.at hL2S hL27) hv2 ?_
    have e48 := e45.trans (e56.trans (e67.trans e78))
    have e38 := e34.trans e48
    have hx8 := hx H8 ((e2.trans e3).trans e38).kp
    walk_at "go"
    refine ⟨x, v1, v2, rfl, .inl ⟨tn, D, hx8.1, hzs, hb, hx8.2, fun l1 H9 s9 _ hl1 => ?_⟩⟩
    have e89 := Ev.of_same e78.src s9
    have e49 := e48.trans e89
    have h19 : Tells H9 d1 (aW D.shown) := e49.at hd1S h14
    have hokA := aW_ok hx8.2.o
    walk_at "go"
    refine i_neStrsL hokA hokA hl1 h19 ?_
    walk_at "go"
    refine ite_ndf rfl ?_
    walk_at "go"
    have hx9 := hx H9 (((e2.trans e3).trans e38).trans e89).kp
    refine ⟨x, tn, D, rfl, hx9.1, hzs, hb, hx9.2, fun l2 a2 b2 H10 s10 hl2 ha2 hb2 => ?_⟩
    have e910 := Ev.of_same e89.src s10
    walk_at "go"
    refine ⟨sz2, fun L3 hL3 => ?_⟩
    have s11 : Same H10 (upd H10 L3 (.lst [.ref d1, .ref d1])) := same_laid hL3
    have hL311 : (upd H10 L3 (.lst [.ref d1, .ref d1])) L3 = some (.lst [.ref d1, .ref d1]) := upd_same
    generalize upd H10 L3 (.lst [.ref d1, .ref d1]) = H11 at *
    have e1011 := Ev.of_same e910.src s11
    refine i_neLL hokA (s11 _ _ hl2) (s11 _ _ ha2) (s11 _ _ hb2) hL311 (s11 _ _ (s10 _ _ h19)) ?_
    have e411 := e49.trans (e910.trans e1011)
    have hq111 := e411.at hq1S hq14
    have hq211 := e411.at hq2S hq24
    have e311 := e34.trans e411
    walk_at "go"
    refine ⟨log_le hib, ?_⟩
    walk_at "go"
    have hlt : ∀ i : Int, (-1 ≤ i ∧ i ≤ 1000000) → (Str.ofString (toString i)).length ≤ 1921 := fun i h => PyProof.Rows.int_text_len_1921 (log_le h)
    refine ⟨_, _, rfl, rfl, ?_, ?_⟩
    · rw [sizeLine_eq]
      have : ("item " : Str).length = 5 := by decide +kernel
      have := hlt ib hib
      omega
    walk_at "go"
    refine ⟨sz3, fun d2 hd2 => ?_⟩
    have e1112 := Ev.laid (o := .lst [.str "value", .str ("item " ++ Str.ofString (toString ib)), .str "moves"]) e1011.src hd2
    have h212 : Tells (upd H11 d2 (.lst [.str "value", .str ("item " ++ Str.ofString (toString ib)), .str "moves"])) d2 (iW ib "moves") := upd_same
    have hd2S := e1011.src.notin hd2
    generalize upd H11 d2 (.lst [.str "value", .str ("item " ++ Str.ofString (toString ib)), .str "moves"]) = H12 at *
    have hq112 := e1112.at hq1S hq111
    have hq212 := e1112.at hq2S hq211
    walk_at "go"
    refine ⟨sz2, fun L4 hL4 => ?_⟩
    have e1213 := Ev.laid (o := .lst [.ref pg, xs]) e1112.src hL4
    have hL413 : (upd H12 L4 (.lst [.ref pg, xs])) L4 = some (.lst [.ref pg, xs]) := upd_same
    have hL4S := e1112.src.notin hL4
    generalize upd H12 L4 (.lst [.ref pg, xs]) = H13 at *
    walk_at "go"
    refine ⟨S, a, _, rfl, hSa, e1213.src, by decide, by decide, fun c3 H14 g4 g5 e1314 => ?_⟩
    obtain ⟨v3, hv3⟩ := pick2 (A := .ref pg) (B := xs) g4 g5
    refine i_ixL (e1314.at hL4S hL413) hv3 ?_
    have e1214 := e1213.trans e1314
    have e314 := e311.trans (e1112.trans e1214)
    walk_at "go"
    refine ⟨.str (SX.S al), xb, v3, rfl, .inr ⟨al, rfl, ha, .inl ⟨ib, hmv H14 (e3.trans e314).kp, fun l3 H15 s15 _ hl3 => ?_⟩⟩⟩
    have e1415 := Ev.of_same e1314.src s15
    have hokM : ∀ w ∈ iW ib "moves", PyData.strOk w = true := iW_ok (by decide +kernel)
    walk_at "go"
    refine i_neStrsL hokM hokM hl3 ((e1214.trans e1415).at hd2S h212) ?_
    walk_at "go"
    refine ite_ndf rfl ?_
    have e315 := e314.trans e1415
    have hq215 := (e1214.trans e1415).at hq2S hq212
    walk_at "go"
    refine ⟨log_le his, ?_⟩
    walk_at "go"
    refine ⟨_, _, rfl, rfl, ?_, ?_⟩
    · rw [sizeLine_eq]
      have : ("item " : Str).length = 5 := by decide +kernel
      have := hlt is his
      omega
    walk_at "go"
    refine ⟨sz3, fun d3 hd3 => ?_⟩
    have e1516 := Ev.laid (o := .lst [.str "value", .str ("item " ++ Str.ofString (toString is)), .str "good"]) e1415.src hd3
    have h316 : Tells (upd H15 d3 (.lst [.str "value", .str ("item " ++ Str.ofString (toString is)), .str "good"])) d3 (iW is "good") := upd_same
    generalize upd H15 d3 (.lst [.str "value", .str ("item " ++ Str.ofString (toString is)), .str "good"]) = H16 at *
    have e316 := e315.trans e1516
    have hq216 := e1516.at hq2S hq215
    have hm16 := hm3.ev e316
    have hg16 := hg3.ev e316
    walk_at "go"
    refine ⟨.str (SX.S al), .ref pm, xs, rfl, .inr ⟨al, rfl, ha, .inr ⟨S, pm, rs, rfl, e316.src.to, hm16.rows, hw, .inl ⟨is, hgd H16 e316.kp, fun l4 H17 s17 _ hl4 => ?_⟩⟩⟩⟩
    have e1617 := Ev.of_same e316.src s17
    have hokG : ∀ w ∈ iW is "good", PyData.strOk w = true := iW_ok (by decide +kernel)
    walk_at "go"
    refine i_eqStrsL hokG hokG hl4 (s17 _ _ h316) ?_
    walk_at "go"
    refine ite_dt rfl ?_
    walk_at "go"
    refine ⟨.str (SX.S al), .ref pm, .ref pg, rfl, .inr ⟨al, rfl, ha, .inr ⟨S, pm, rs, rfl, e1617.src.to, (hm16.ev e1617).rows, hw, .inr ⟨pg, gd, rfl, (hg16.ev e1617).ints, hg, fun l5 H18 s18 _ hl5 => ?_⟩⟩⟩⟩
    have e1718 := Ev.of_same e1617.src s18
    walk_at "go"
    refine ⟨szl (by show 0 ≤ 16777216; decide), fun L6 hL6 => ?_⟩
    have s19 : Same H18 (upd H18 L6 (.lst [])) := same_laid hL6
    refine i_eqStrsL (a := []) (b := []) (fun _ h => by cases h) (fun _ h => by cases h) (s19 _ _ hl5) upd_same ?_
    rw [decide_eq_true rfl]
    exact k _ (e03.trans (e316.trans (e1617.trans (e1718.trans (.of_same e1718.src s19)))))
end
abbrev s_law : Stmt := top 65
theorem sc_law : FnScope ["script", "source", "second", "third", "fourth", "alphabet", "plains", "readers", "told", "passed", "texts", "k", "same", "text", "at", "due", "reader", "row"] ["script"] (fnScope s_law) := ⟨rfl, rfl, rfl, by decide +kernel, rfl, by decide +kernel, by decide +kernel⟩
theorem fault_le {al : List Nat} {x : V} {j : Int} (h : faultV al 40 x = some j) : -1 ≤ j ∧ j ≤ 1000000 := by
  cases x with
  | str z =>
    have h : faultZ al 40 z.cps.toList = some j := h
    unfold faultZ at h
    split at h
    · cases h; decide
    · rename_i hl
      cases hf : (z.cps.toList.findIdx? fun c => decide (c ∉ al)) with
      | none => rw [hf] at h; cases h
      | some i =>
        rw [hf] at h
        have hj : (i : Int) = j := Option.some.inj h
        have hi : i < z.cps.toList.length := (List.findIdx?_eq_some_iff_findIdx_eq.mp hf).1
        omega
  | _ =>
    have h : some (-1 : Int) = some j := h
    cases h
    decide
theorem fault_log {al : List Nat} {x : V} {j : Int} (h : faultV al 40 x = some j) : j.natAbs.log2 < 1920 := log_le (fault_le h)
def sp_law (K : PySem.W.Frag) : Sp := fun vs H Q _ => ∃ (a : Addr) (ns : List Int), vs = [.ref a] ∧ SqL K H a (ns.map V.int) ∧ ns.length ≤ 63 ∧ (∀ n ∈ ns, n.natAbs < 2 ^ 1048576) ∧ ∀ H', Q (.bl true) H'
section
variable {P : Program} {w : World} {K : PySem.W.Frag} {mg : Str → Option Value} {base : Heap} {C : Addr} {r : Er}
set_option maxHeartbeats 4000000 in
theorem ok_law {f : Addr} {fd : FuncData} (F : C8.Fun K "law" "law" s_law f fd) (T : Txt K mg C r) (c_law_source : Cal P w K mg base 1 "_law_source" (sp_law_source K) []) (c_law_alphabet : Cal P w K mg base 2 "_law_alphabet" sp_law_alphabet []) (c_law_sized : Cal P w K mg base 3 "_law_sized" sp_law_sized []) (c_law_passed : Cal P w K mg base 2 "_law_passed" sp_law_passed []) (c_law_spoilt : Cal P w K mg base 1 "_law_spoilt" sp_law_spoilt []) (c_law_letters : Cal P w K mg base 2 "_law_letters" sp_law_letters []) (c_law_word : Cal P w K mg base 2 "_law_word" sp_law_word []) (c_law_right : Cal P w K mg base 7 "_law_right" (sp_law_right K C r) []) (c_law_equal : Cal P w K mg base 7 "_law_equal" (sp_law_equal K C r) []) (c_law_ends : Cal P w K mg base 9 "_law_ends" (sp_law_ends K C r) []) (c_law_refused : CalG P w K mg base 10 "_law_refused" (sp_law_refused K C r)) (c_law_wrong_text : Cal P w K mg base 3 "_law_wrong_text" sp_law_wrong_text []) (c_law_finding : CalG P w K mg base 7 "_law_finding" (sp_law_finding K C r)) (c_law_rooming : CalG P w K mg base 7 "_law_rooming" (sp_law_rooming K C r)) (m_Reader : MakX P w K mg base 5 "Reader" C (sp_Readerd_initd C r)) (o_eq : OwnCal P w K mg base 1 C "__eq__" (sp_Readerd_eqd K C)) : FnG P w K mg base C8.CX0 11 f fd ["script"] (sp_law K) := by
  refine fnG0 F sc_law (fun vs H Q E h => ?_) (fun cdv A outer s H vs Q E hr hG h => ?_)
  · obtain ⟨_, _, rfl, _⟩ := h
    rfl
  · obtain ⟨a, ns, rfl, ha, hl, hb, k⟩ := h
    refine ⟨_, (pss_cons (ps_set (i := 1) sc_law.nd rfl (by first | exact Or.inl rfl | exact Or.inr rfl) (pe_c c_law_source hr (by decide) rfl (pa_cons (pv 0) (pa_cons pe_int pa_nil))))
        (pss_cons (ps_set (i := 2) sc_law.nd rfl (by first | exact Or.inl rfl | exact Or.inr rfl) (pe_c c_law_source hr (by decide) rfl (pa_cons (pv 0) (pa_cons pe_int pa_nil))))
        (pss_cons (ps_set (i := 3) sc_law.nd rfl (by first | exact Or.inl rfl | exact Or.inr rfl) (pe_c c_law_source hr (by decide) rfl (pa_cons (pv 0) (pa_cons pe_int pa_nil))))
        (pss_cons (ps_set (i := 4) sc_law.nd rfl (by first | exact Or.inl rfl | exact Or.inr rfl) (pe_c c_law_source hr (by decide) rfl (pa_cons (pv 0) (pa_cons pe_int pa_nil))))
        (pss_cons (ps_set (i := 5) sc_law.nd rfl (by first | exact Or.inl rfl | exact Or.inr rfl) (pe_c c_law_alphabet hr (by decide) rfl (pa_cons (pv 1) pa_nil)))
        (pss_cons (ps_set (i := 6) sc_law.nd rfl (by first | exact Or.inl rfl | exact Or.inr rfl) (pe_lst (pa_cons (pe_c c_law_sized hr (by decide) rfl (pa_cons (pv 1) (pa_cons (pe_callB (lenK K rfl) (by rfl) T.b_len (by decide +kernel) (pa_cons (pv 5) pa_nil)) pa_nil))) (pa_cons (pe_c c_law_sized hr (by decide) rfl (pa_cons (pv 2) (pa_cons (pe_callB (lenK K rfl) (by rfl) T.b_len (by decide +kernel) (pa_cons (pv 5) pa_nil)) pa_nil))) pa_nil))))
        (pss_cons (ps_set (i := 7) sc_law.nd rfl (by first | exact Or.inl rfl | exact Or.inr rfl) (pe_lst pa_nil))
        (pss_cons (ps_for PassesOwn.never rfl (seqK K rfl (pv 6)) (pg_name (i := 8) sc_law.nd rfl (by first | exact Or.inl rfl | exact Or.inr rfl))
        (pss_cons (ps_set (i := 9) sc_law.nd rfl (by first | exact Or.inl rfl | exact Or.inr rfl) (pe_c c_law_passed hr (by decide) rfl (pa_cons (pv 3) (pa_cons (pv 8) pa_nil))))
        (pss_cons (ps_expr (bmK K rfl (pe_bm PySem.F.plainAttrs_list PySem.F.slot_list_append PySem.F.type_list_append mt_append (pv 7) (pa_cons (pe_mkX m_Reader hr (by decide) takes0 rfl (pa_cons (pv 5) (pa_cons (pe_ix (ixK K rfl) (pv 9) pe_int (fun _ _ => rfl)) (pa_cons (pe_ix (ixK K rfl) (pv 9) pe_int (fun _ _ => rfl)) pa_nil)))) pa_nil))))
        (pss_one (ps_expr (pe_c c_law_spoilt hr (by decide) rfl (pa_cons (pv 9) pa_nil)))))))
        (pss_cons (ps_set (i := 10) sc_law.nd rfl (by first | exact Or.inl rfl | exact Or.inr rfl) (pe_lst (pa_cons pe_str (pa_cons (pe_c c_law_word hr (by decide) rfl (pa_cons (pv 3) (pa_cons (pv 5) (pa_cons pe_int pa_nil)))) (pa_cons (pe_c c_law_word hr (by decide) rfl (pa_cons (pv 3) (pa_cons (pv 5) (pa_cons pe_int pa_nil)))) (pa_cons (pe_c c_law_letters hr (by decide) rfl (pa_cons (pv 3) (pa_cons (pv 5) (pa_cons pe_int pa_nil)))) pa_nil))))))
        (pss_cons (ps_for PassesOwn.never rfl (seqK K rfl (pe_tup (pa_cons pe_int (pa_cons pe_int (pa_cons pe_int pa_nil))))) (pg_name (i := 11) sc_law.nd rfl (by first | exact Or.inl rfl | exact Or.inr rfl))
        (pss_one (ps_if (pt_not (pt_val (pe_c c_law_right hr (by decide) rfl (pa_cons (pv 5) (pa_cons (pe_ix (ixK K rfl) (pv 6) (pv 11) (fun _ _ => rfl)) (pa_cons (pe_ix (ixK K rfl) (pv 7) (pv 11) (fun _ _ => rfl)) (pa_cons (pv 10) pa_nil))))))) (pss_one (ps_ret pe_bl)) pss_nil)))
        (C8.pss_cut (ps_set (i := 12) sc_law.nd rfl (by first | exact Or.inl rfl | exact Or.inr rfl) (pe_and (pe_cmpR (eqDK K rfl hr.units) (pe_lc (own := [("row", 17)]) rfl sc_law.nd (seqK K rfl (pe_ix (ixK K rfl) (pe_ix (ixK K rfl) (pv 6) pe_int (fun _ _ => rfl)) pe_int (fun _ _ => rfl))) (blkOk_by (by kernel_rfl)) (fun _ _ _ _ _ => (pg_name (i := 17) sc_law.nd rfl (by first | exact Or.inl rfl | exact Or.inr rfl))) (fun _ _ _ _ _ => pts_nil) (fun _ _ _ _ _ => (pe_callTy (listK K rfl) (by rfl) T.b_list (by decide +kernel) (pa_cons (pv 17) pa_nil)))) (pe_lc (own := [("row", 17)]) rfl sc_law.nd (seqK K rfl (pe_ix (ixK K rfl) (pe_ix (ixK K rfl) (pv 6) pe_int (fun _ _ => rfl)) pe_int (fun _ _ => rfl))) (blkOk_by (by kernel_rfl)) (fun _ _ _ _ _ => (pg_name (i := 17) sc_law.nd rfl (by first | exact Or.inl rfl | exact Or.inr rfl))) (fun _ _ _ _ _ => pts_nil) (fun _ _ _ _ _ => (pe_callTy (listK K rfl) (by rfl) T.b_list (by decide +kernel) (pa_cons (pv 17) pa_nil)))) (nomark _)) (pe_one (pe_cmpR (eqDK K rfl hr.units) (pe_ix (ixK K rfl) (pe_ix (ixK K rfl) (pv 6) pe_int (fun _ _ => rfl)) pe_int (fun _ _ => rfl)) (pe_ix (ixK K rfl) (pe_ix (ixK K rfl) (pv 6) pe_int (fun _ _ => rfl)) pe_int (fun _ _ => rfl)) (nomark _)))))
        (pss_cons (ps_if (PW.pt (pw_or (pt_cmpR op_ne (pe_cmpR (ownEqX K rfl o_eq hr (by decide)) (pe_ix (ixK K rfl) (pv 7) pe_int (fun _ _ => rfl)) (pe_ix (ixK K rfl) (pv 7) pe_int (fun _ _ => rfl)) (nomark _)) (pv 12) (nomark _)) (pw_or1 (pt_not (pt_val (pe_c c_law_equal hr (by decide) rfl (pa_cons (pv 5) (pa_cons (pe_ix (ixK K rfl) (pv 6) pe_int (fun _ _ => rfl)) (pa_cons (pe_ix (ixK K rfl) (pv 7) pe_int (fun _ _ => rfl)) (pa_cons (pv 3) pa_nil)))))))))) (pss_one (ps_ret pe_bl)) pss_nil)
        (pss_cons (ps_if (pt_not (pt_val (pe_c c_law_ends hr (by decide) rfl (pa_cons (pv 5) pa_nil)))) (pss_one (ps_ret pe_bl)) pss_nil)
        (pss_cons (ps_for PassesOwn.never rfl (pi_range1 (by rfl) T.b_range (pa_cons pe_int pa_nil)) (pg_name (i := 11) sc_law.nd rfl (by first | exact Or.inl rfl | exact Or.inr rfl))
        (pss_cons (ps_if (pt_not (pt_val (pe_cG c_law_refused hr (by decide) hG rfl (pa_cons (pv 4) (pa_cons (pv 5) (pa_cons (pe_ix (ixK K rfl) (pv 6) (pe_op op_mod (pe_callTy int1 (by rfl) T.b_int (by decide +kernel) (pa_cons (pv 11) pa_nil)) pe_int) (fun _ _ => rfl)) pa_nil)))))) (pss_one (ps_ret pe_bl)) pss_nil)
        (pss_cons (ps_asg (pe_c c_law_wrong_text hr (by decide) rfl (pa_cons (pv 4) (pa_cons (pv 5) pa_nil))) (unlK K rfl rfl (pgs_cons (pg_name (i := 13) sc_law.nd rfl (by first | exact Or.inl rfl | exact Or.inr rfl)) (pgs_cons (pg_name (i := 14) sc_law.nd rfl (by first | exact Or.inl rfl | exact Or.inr rfl)) pgs_nil))))
        (pss_cons (ps_set (i := 15) sc_law.nd rfl (by first | exact Or.inl rfl | exact Or.inr rfl) (pe_lst (pa_cons pe_str (pa_cons (pe_op op_add_str pe_str (pe_callTy call_str_int (by rfl) T.b_str (by decide +kernel) (pa_cons (pv 14) pa_nil))) (pa_cons pe_str pa_nil)))))
        (pss_one (ps_for PassesOwn.never rfl (seqK K rfl (pv 7)) (pg_name (i := 16) sc_law.nd rfl (by first | exact Or.inl rfl | exact Or.inr rfl))
        (pss_one (ps_if (PW.pt (pw_or (pt_cmpR (neDK K rfl hr.units) (pe_cG c_law_rooming hr (by decide) hG rfl (pa_cons (pv 16) (pa_cons (pv 13) pa_nil))) (pv 15) (nomark _)) (pw_or1 (pt_cmpR (neDK K rfl hr.units) (pe_cG c_law_finding hr (by decide) hG rfl (pa_cons (pv 16) (pa_cons (pv 13) pa_nil))) (pv 15) (nomark _))))) (pss_one (ps_ret pe_bl)) pss_nil))))))))
        (pss_one (ps_ret (pe_and (pe_c c_law_right hr (by decide) rfl (pa_cons (pv 5) (pa_cons (pe_ix (ixK K rfl) (pv 6) pe_int (fun _ _ => rfl)) (pa_cons (pe_ix (ixK K rfl) (pv 7) pe_int (fun _ _ => rfl)) (pa_cons (pv 10) pa_nil))))) (pe_one (pe_c c_law_right hr (by decide) rfl (pa_cons (pv 5) (pa_cons (pe_ix (ixK K rfl) (pv 6) pe_int (fun _ _ => rfl)) (pa_cons (pe_ix (ixK K rfl) (pv 7) pe_int (fun _ _ => rfl)) (pa_cons (pv 10) pa_nil))))))))))))))))))))))), ?_⟩
    walk_at "go"
    refine ⟨a, ns, 0, rfl, ha, hl, by decide, hb, fun s1 x1 y1 z1 H1 sm1 h10 h11 => ?_⟩
    walk_at "go"
    refine ⟨a, ns, 1, rfl, SqL.same ha sm1, hl, by decide, hb, fun s2 x2 y2 z2 H2 sm2 h20 h21 => ?_⟩
    walk_at "go"
    refine ⟨a, ns, 2, rfl, SqL.same (SqL.same ha sm1) sm2, hl, by decide, hb, fun s3 x3 y3 z3 H3 sm3 h30 h31 => ?_⟩
    walk_at "go"
    refine ⟨a, ns, 3, rfl, SqL.same (SqL.same (SqL.same ha sm1) sm2) sm3, hl, by decide, hb, fun s4 x4 y4 z4 H4 sm4 h40 h41 => ?_⟩
    walk_at "go"
    generalize hSdef : (fun b : Addr => b = s1 ∨ b = s2 ∨ b = s3 ∨ b = s4) = S
    have iS1 : S s1 := by rw [← hSdef]; exact .inl rfl
    have iS2 : S s2 := by rw [← hSdef]; exact .inr (.inl rfl)
    have iS3 : S s3 := by rw [← hSdef]; exact .inr (.inr (.inl rfl))
    have iS4 : S s4 := by rw [← hSdef]; exact .inr (.inr (.inr rfl))
    have hS4 : Srcs S H4 := fun b hb => by
      rw [← hSdef] at hb
      rcases hb with e | e | e | e
      · rw [e]; exact ⟨x1, y1, z1, sm4 _ _ (sm3 _ _ (sm2 _ _ h11))⟩
      · rw [e]; exact ⟨x2, y2, z2, sm4 _ _ (sm3 _ _ h21)⟩
      · rw [e]; exact ⟨x3, y3, z3, sm4 _ _ h31⟩
      · rw [e]; exact ⟨x4, y4, z4, h41⟩
    refine ⟨S, s1, rfl, iS1, hS4, fun al H5 hmen hal e5 => ?_⟩
    walk_at "go"
    have hal1 := hal.pos
    have hal3 := hal.le
    have hla : (SX.S al).length = al.length := SX.S_len al
    refine i_lenS (szl (by omega)) ?_
    rw [hla]
    walk_at "go"
    refine ⟨S, s1, al.length, rfl, iS1, e5.src, hal1, hal3, fun p0 rs0 g0 H6 e6 hm0 hw0 hk0 => ?_⟩
    walk_at "go"
    refine i_lenS (szl (by omega)) ?_
    rw [hla]
    walk_at "go"
    refine ⟨S, s2, al.length, rfl, iS2, e6.src, hal1, hal3, fun p1 rs1 g1 H7 e7 hm1 hw1 hk1 => ?_⟩
    walk_at "go"
    refine ⟨sz2, fun PL hPL => ?_⟩
    have e8 := Ev.laid (o := .lst [.ref p0, .ref p1]) e7.src hPL
    have hm0 := (hm0.ev e7).ev e8
    have hm1 := hm1.ev e8
    have hPLS : ¬ S PL := e7.src.notin hPL
    have hPL8 : (upd H7 PL (.lst [.ref p0, .ref p1])) PL = some (.lst ([p0, p1].map V.ref)) := upd_same
    have hS8 := e8.src
    generalize upd H7 PL (.lst [.ref p0, .ref p1]) = H8 at *
    have hP8 : Paired (fun a (x : Rws × List Nat) => MachL S H8 a x.1 x.2 ∧ WF al.length x.1 ∧ GOK x.1.length x.2) [p0, p1] [(rs0, g0), (rs1, g1)] := .cons ⟨hm0, hw0, hk0⟩ (.cons ⟨hm1, hw1, hk1⟩ .nil)
    clear sm1 sm2 sm3 sm4 h10 h11 h20 h21 h30 h31 h40 h41 hS4 e5 e6 e7 e8 ha
    generalize hpls : [(rs0, g0), (rs1, g1)] = pls at hP8
    generalize hpad : [p0, p1] = pad at hP8 hPL8
    have hpl2 : pad.length = 2 := by rw [← hpad]; rfl
    walk_at "go"
    refine ⟨szl (by show 0 ≤ 16777216; decide), fun RL hRL => ?_⟩
    have e9 := Ev.laid (o := .lst []) hS8 hRL
    have hRL9 : (upd H8 RL (.lst [])) RL = some (.lst []) := upd_same
    have hPL9 := e9.at hPLS hPL8
    have hRLS : ¬ S RL := hS8.notin hRL
    generalize upd H8 RL (.lst []) = H9 at *
    walk_at "go"
    refine seq_for (t := false) hPL9 (fun i σ H' => ∃ (x8 x9 : Option V) (rds : List Addr), σ = [some (.ref a), some (.ref s1), some (.ref s2), some (.ref s3), some (.ref s4), some (.str (SX.S al)), some (.ref PL), some (.ref RL), x8, x9, none, none, none, none, none, none, none, none] ∧ Ev S H8 H' ∧ H' RL = some (.lst (rds.map V.ref)) ∧ Paired (fun a (x : Rws × List Nat) => Rd C S H' a al x.1 x.2) rds (pls.take i)) ⟨_, _, [], rfl, e9, hRL9, by rw [List.take_zero]; exact .nil⟩ (fun i σ H' _ ⟨_, _, _, _, e, _⟩ => e.at hPLS hPL8) (fun i v σ H' hv hq => ?_) (fun σ H' hq => ?_)
    · obtain ⟨x8, x9, rds, rfl, e10, hRL10, hrds⟩ := hq
      obtain ⟨pa, hpa, rfl⟩ := at_map hv
      obtain ⟨⟨A, g⟩, hx, hma, hwA, hgA⟩ := Paired.at0 hP8 hpa
      have hi : i < 2 := by
        have := (List.getElem?_eq_some_iff.mp hpa).1
        omega
      have hrl : rds.length ≤ 2 := by
        rw [hrds.length, List.length_take]
        omega
      walk_at "go"
      refine ⟨S, s3, pa, A, g, al.length, rfl, iS3, e10.src, hma.ev e10, hwA, hgA, fun q pm pg t H2 e2 hq0 hq2 hrm hgi => ?_⟩
      have hRL2 := e2.at hRLS hRL10
      walk_at "go"
      intro x dx hx0 hdx hne
      have hTO2 : TO (Old H') H2 := fun b hb => e2.old e10.src hb
      refine mk_good (Z := Old H') hal hTO2 hrm.rows hwA hgi.ints hgA hx0 hdx hne (fun H3 s3' hrd => ?_)
      have hRL3 := s3' _ _ hRL2
      walk_at "go"
      refine i_append hRL3 (by rw [List.length_map]; omega) ?_
      have hn1 : ∀ vs, H3 RL ≠ some (.tup vs) := fun vs z => by rw [hRL3] at z; cases z
      have hn2 : ∀ C dx fs, H3 RL ≠ some (.ins C dx fs) := fun C dx fs z => by rw [hRL3] at z; cases z
      have e23 := e2.trans (.of_same e2.src s3')
      have hqRL : q ≠ RL := fun z => by rw [z] at hq0; rw [hRL10] at hq0; cases hq0
      have hq4 : (upd H3 RL (.lst (rds.map V.ref ++ [.ref x]))) q = some (.lst [.ref pm, .ref pg]) := by rw [upd_ne hqRL]; exact s3' _ _ hq2
      have e4 : Ev S H8 (upd H3 RL (.lst (rds.map V.ref ++ [.ref x]))) := Ev.put hS8 (e10.trans e23) hRL
      have k4 : Kp (fun b => b = RL) H3 (upd H3 RL (.lst (rds.map V.ref ++ [.ref x]))) := Kp.at
      have oRL : Old H' RL := ⟨_, hRL10⟩
      have hrm4 := (hrm.same s3').kp k4 (fun b z => by rw [z]; exact oRL)
      have hgi4 := (hgi.same s3').kp k4 (fun b z => by rw [z]; exact oRL)
      have hTO4 : TO (Old H') (upd H3 RL (.lst (rds.map V.ref ++ [.ref x]))) := fun b hb => old_upd (let ⟨o, e⟩ := hTO2 b hb; ⟨o, s3' _ _ e⟩)
      have hr4 : Paired (fun a (y : Rws × List Nat) => Rd C S (upd H3 RL (.lst (rds.map V.ref ++ [.ref x]))) a al y.1 y.2) (rds ++ [x]) (pls.take (i + 1)) := by
        rw [take_at hx]
        exact U.Paired.snoc (Paired.mapP hrds fun b r z => (z.ev e23).upd hn1 hn2) ((hrd.toS e23.src).upd hn1 hn2)
      have hRL4 : (upd H3 RL (.lst (rds.map V.ref ++ [.ref x]))) RL = some (.lst ((rds ++ [x]).map V.ref)) := by rw [upd_same, List.map_append]; rfl
      generalize upd H3 RL (.lst (rds.map V.ref ++ [.ref x])) = H4 at *
      walk_at "go"
      refine ⟨q, pm, pg, t, A, g, al.length, Old H', rfl, hq4, hrm4, hgi4, hwA, hTO4, Nat.le_trans (gok_len hgA) hwA.le, fun H5 k5 hq5 => ?_⟩
      have e5 := ev_spoilt hS8 e10 e4 k5
      walk_at "go"
      exact ⟨_, _, rds ++ [x], rfl, e5, k5 _ _ (fun z => z.1 oRL) hRL4, Paired.mapP hr4 fun b r z => rd_spoilt z k5 e5.src⟩
    obtain ⟨x8, x9, rds, rfl, e10, hRL10, hrds⟩ := hq
    have hS10 := e10.src
    have hlp : (pad.map V.ref).length = 2 := by rw [List.length_map, hpl2]
    rw [hlp, ← hpls] at hrds
    rw [← hpad] at hPL8
    clear hP8
    subst hpls hpad
    obtain ⟨r0, r1, rfl, hr0, hr1⟩ := paired2 hrds
    have hm0 := hm0.ev e10
    have hm1 := hm1.ev e10
    have hPL10 : H' PL = some (.lst [.ref p0, .ref p1]) := e10.at hPLS hPL8
    have hRL10 : H' RL = some (.lst [.ref r0, .ref r1]) := hRL10
    clear hrds hPL8 hPL9 hRL9 hlp hpl2 e9 e10 hRL
    walk_at "go"
    refine ⟨S, s3, al, 8, rfl, iS3, hS10, hal, by decide, fun z1 w1 H11 l1 hz1 e11 => ?_⟩
    walk_at "go"
    refine ⟨S, s3, al, 8, rfl, iS3, e11.src, hal, by decide, fun z2 w2 H12 l2 hz2 e12 => ?_⟩
    walk_at "go"
    refine ⟨S, s3, al, 40, rfl, iS3, e12.src, hal, by decide, fun z3 w3 H13 l3 hz3 e13 => ?_⟩
    walk_at "go"
    refine ⟨szl (by show 4 ≤ 16777216; decide), fun TL hTL => ?_⟩
    have e14 := Ev.laid (o := .lst [.str "", .str (SX.S z1), .str (SX.S z2), .str (SX.S z3)]) e13.src hTL
    have hTL14 : (upd H13 TL (.lst [.str "", .str (SX.S z1), .str (SX.S z2), .str (SX.S z3)])) TL = some (.lst (([[], z1, z2, z3] : List (List Nat)).map fun z => .str (SX.S z))) := upd_same
    have hTLS : ¬ S TL := e13.src.notin hTL
    have e1014 := e11.trans (e12.trans (e13.trans e14))
    have hPL14 := e1014.at hPLS hPL10
    have hRL14 := e1014.at hRLS hRL10
    have hm0 := hm0.ev e1014
    have hm1 := hm1.ev e1014
    have hr0 := hr0.ev e1014
    have hr1 := hr1.ev e1014
    have hzs : ∀ z ∈ [[], z1, z2, z3], ∃ w, Word al w z ∧ z.length ≤ 40 := fun z hz => by
      simp only [List.mem_cons, List.not_mem_nil, or_false] at hz
      rcases hz with rfl | rfl | rfl | rfl
      · exact ⟨[], ⟨by simp, rfl⟩, by decide⟩
      · exact ⟨_, hz1, by omega⟩
      · exact ⟨_, hz2, by omega⟩
      · exact ⟨_, hz3, by omega⟩
    have hzl : ([[], z1, z2, z3] : List (List Nat)).length ≤ 1000 := by show 4 ≤ 1000; decide
    have hS14 := e14.src
    generalize upd H13 TL (.lst [.str "", .str (SX.S z1), .str (SX.S z2), .str (SX.S z3)]) = H14 at *
    generalize ([[], z1, z2, z3] : List (List Nat)) = zs at *
    clear e11 e12 e13 e14 e1014 hPL10 hRL10 hS10 hz1 hz2 hz3 l1 l2 l3 hTL
    have at2 : ∀ n : Nat, n < 2 → ∃ (pa ra : Addr) (A : Rws) (g : List Nat), atI ([.ref p0, .ref p1] : List V) (n : Int) = some (.ref pa) ∧ atI ([.ref r0, .ref r1] : List V) (n : Int) = some (.ref ra) ∧ MachL S H14 pa A g ∧ Rd C S H14 ra al A g ∧ WF al.length A ∧ GOK A.length g := fun n hn => by
      have : n = 0 ∨ n = 1 := by omega
      rcases this with rfl | rfl
      · exact ⟨p0, r0, rs0, g0, rfl, rfl, hm0, hr0, hw0, hk0⟩
      · exact ⟨p1, r1, rs1, g1, rfl, rfl, hm1, hr1, hw1, hk1⟩
    walk_at "go"
    refine ⟨sz3, fun KT hKT => ?_⟩
    have s15 : Same H14 (upd H14 KT (.tup [.int 0, .int 1, .int 0])) := same_laid hKT
    have hKT15 : (upd H14 KT (.tup [.int 0, .int 1, .int 0])) KT = some (.tup [.int 0, .int 1, .int 0]) := upd_same
    generalize upd H14 KT (.tup [.int 0, .int 1, .int 0]) = H15 at *
    have hn010 : ∀ (i : Nat) (v : V), ([.int 0, .int 1, .int 0] : List V)[i]? = some v → ∃ n : Nat, v = .int (n : Int) ∧ n < 2 := fun i v h => by
      have hm := List.mem_of_getElem? h
      simp only [List.mem_cons, List.not_mem_nil, or_false] at hm
      rcases hm with rfl | rfl | rfl
      · exact ⟨0, rfl, by decide⟩
      · exact ⟨1, rfl, by decide⟩
      · exact ⟨0, rfl, by decide⟩
    refine seq_for (t := true) hKT15 (fun i σ H' => ∃ x11, σ = [some (.ref a), some (.ref s1), some (.ref s2), some (.ref s3), some (.ref s4), some (.str (SX.S al)), some (.ref PL), some (.ref RL), x8, x9, some (.ref TL), x11, none, none, none, none, none, none] ∧ Same H15 H') ⟨_, rfl, .refl _⟩ (fun i σ H' _ ⟨_, _, s⟩ => s _ _ hKT15) (fun i v σ H' hv hq => ?_) (fun σ H' hq => ?_)
    · obtain ⟨x11, rfl, s⟩ := hq
      obtain ⟨n, rfl, hn⟩ := hn010 i v hv
      obtain ⟨pa, ra, A, g, ia, ja, hma, hra, hwA, hgA⟩ := at2 n hn
      have s14 := s15.trans s
      walk_at "go"
      refine i_ixL (s14 _ _ hPL14) ia ?_
      walk_at "go"
      refine i_ixL (s14 _ _ hRL14) ja ?_
      walk_at "go"
      refine ⟨S, al, pa, ra, TL, A, g, zs, rfl, (hma.same s14).mach, hra.same s14, hal, hwA, hgA, s14 _ _ hTL14, hzl, hzs, fun H2 s2' => ?_⟩
      walk_at "go"
      exact ⟨_, rfl, s.trans s2'⟩
    obtain ⟨x11, rfl, s16⟩ := hq
    have s1416 := s15.trans s16
    clear s15 s16 hKT hKT15 hn010
    walk_at "go"
    refine i_cut (fun σ H2 => ∃ x17, σ = [some (.ref a), some (.ref s1), some (.ref s2), some (.ref s3), some (.ref s4), some (.str (SX.S al)), some (.ref PL), some (.ref RL), x8, x9, some (.ref TL), x11, some (.bl (decide (rs0 = rs1 ∧ g0 = g1))), none, none, none, none, x17] ∧ Same H14 H2) ?_ (fun σ H2 hq => ?_)
    · have hPL16 := s1416 _ _ hPL14
      obtain ⟨_, pm0, pg0, hp01, ⟨_, as0, hm01, hmP0⟩, ⟨_, hg01⟩⟩ := id (hm0.same s1416)
      obtain ⟨_, pm1, pg1, hp11, ⟨_, as1, hm11, hmP1⟩, ⟨_, hg11⟩⟩ := id (hm1.same s1416)
      have hle0 := hw0.le
      have hle1 := hw1.le
      walk_at "go"
      refine seq_lc (t := false) hm01 (fun E hE => ⟨fun j H3 => Same H' H3 ∧ ∃ bs, H3 E = some (.lst (bs.map V.ref)) ∧ Paired (fun a r => H' a = none ∧ a ≠ E ∧ H3 a = some (.lst (r.map vn))) bs (rs0.take j), ⟨same_laid hE, [], upd_same, by rw [List.take_zero]; exact .nil⟩, fun j H3 _ ⟨e, _⟩ => e _ _ hm01, fun j v H3 hvj hq => ?_, fun H3 hq => ?_⟩)
      · obtain ⟨s3', bs, hE3, hbs⟩ := hq
        obtain ⟨b, hvb, rfl⟩ := at_map hvj
        obtain ⟨rw', hrw, _, hia2⟩ := Paired.at0 hmP0 hvb
        have hj := (List.getElem?_eq_some_iff.mp hrw).1
        walk_at "go"
        refine i_listOf (t := false) (s3' _ _ hia2) (fun l hl => ?_)
        have hlE : l ≠ E := (ne_of_none hE3 hl).symm
        refine ⟨bs.map V.ref, by rw [upd_ne hlE.symm]; exact hE3, szlt (by rw [List.length_map, hbs.length, List.length_take]; omega), Same.put (s3'.trans (same_laid hl)) hE, bs ++ [l], by rw [upd_same, List.map_append]; rfl, ?_⟩
        rw [take_at hrw]
        refine U.Paired.snoc (Paired.mapP hbs fun b r z => ⟨z.1, z.2.1, ?_⟩) ⟨same_free s3' hl, hlE, by rw [upd_ne hlE, upd_same]⟩
        rw [upd_ne z.2.1, upd_ne (ne_of_none z.2.2 hl)]
        exact z.2.2
      obtain ⟨s3', bs, hE3, hbs⟩ := hq
      rw [show (List.map V.ref as0).length = rs0.length by rw [List.length_map, hmP0.length], List.take_length] at hbs
      have hPL3 := s3' _ _ hPL16
      have hp113 := s3' _ _ hp11
      have hm113 := s3' _ _ hm11
      walk_at "go"
      refine seq_lc (t := false) hm113 (fun F hF => ⟨fun j H4 => Same H3 H4 ∧ ∃ cs, H4 F = some (.lst (cs.map V.ref)) ∧ Paired (fun a r => H3 a = none ∧ a ≠ F ∧ H4 a = some (.lst (r.map vn))) cs (rs1.take j), ⟨same_laid hF, [], upd_same, by rw [List.take_zero]; exact .nil⟩, fun j H4 _ ⟨e, _⟩ => e _ _ hm113, fun j v H4 hvj hq => ?_, fun H4 hq => ?_⟩)
      · obtain ⟨s4', cs, hF4, hcs⟩ := hq
        obtain ⟨b, hvb, rfl⟩ := at_map hvj
        obtain ⟨rw', hrw, _, hia2⟩ := Paired.at0 hmP1 hvb
        have hj := (List.getElem?_eq_some_iff.mp hrw).1
        walk_at "go"
        refine i_listOf (t := false) (s4' _ _ (s3' _ _ hia2)) (fun l hl => ?_)
        have hlF : l ≠ F := (ne_of_none hF4 hl).symm
        refine ⟨cs.map V.ref, by rw [upd_ne hlF.symm]; exact hF4, szlt (by rw [List.length_map, hcs.length, List.length_take]; omega), Same.put (s4'.trans (same_laid hl)) hF, cs ++ [l], by rw [upd_same, List.map_append]; rfl, ?_⟩
        rw [take_at hrw]
        refine U.Paired.snoc (Paired.mapP hcs fun b r z => ⟨z.1, z.2.1, ?_⟩) ⟨same_free s4' hl, hlF, by rw [upd_ne hlF, upd_same]⟩
        rw [upd_ne z.2.1, upd_ne (ne_of_none z.2.2 hl)]
        exact z.2.2
      obtain ⟨s4', cs, hF4, hcs⟩ := hq
      rw [show (List.map V.ref as1).length = rs1.length by rw [List.length_map, hmP1.length], List.take_length] at hcs
      have s34 := s3'.trans s4'
      have hPL4 := s34 _ _ hPL16
      have hp04 := s34 _ _ hp01
      have hp14 := s34 _ _ hp11
      walk_at "go"
      refine i_eqRowsL (s4' _ _ hE3) (Paired.mapP hbs fun b r z => s4' _ _ z.2.2) hF4 (Paired.mapP hcs fun b r z => z.2.2) ?_
      walk_at "go"
      refine iteD (fun h => ?_) (fun h => ?_)
      · walk_at "go"
        refine i_eqIntsL (s34 _ _ hg01) (s34 _ _ hg11) ?_
        walk_at "go"
        exact ⟨_, by rw [show decide (rs0 = rs1 ∧ g0 = g1) = decide (g0 = g1) by simp [h]]; rfl, s1416.trans s34⟩
      · walk_at "go"
        exact ⟨_, by rw [show decide (rs0 = rs1 ∧ g0 = g1) = false by simp [h]]; rfl, s1416.trans s34⟩
    obtain ⟨x17, rfl, sm17⟩ := hq
    have hRL1 := sm17 _ _ hRL14
    have hS1 := hS14.kp sm17
    walk_at "go"
    refine own_eqR (hr0.same sm17) (hr1.same sm17) hw0.le hw1.le ?_
    walk_at "go"
    have e0 : decide (al = al ∧ rs0 = rs1 ∧ g0 = g1) = decide (rs0 = rs1 ∧ g0 = g1) := by simp
    rw [e0, decide_eq_true (rfl : decide (rs0 = rs1 ∧ g0 = g1) = decide (rs0 = rs1 ∧ g0 = g1))]
    have hPL1 := sm17 _ _ hPL14
    walk_at "go"
    refine ⟨S, s3, al, p1, r1, rs1, g1, rfl, iS3, hS1, (hm1.same sm17).mach, hr1.same sm17, hmen, hal, hw1, hk1, fun H17 e17 => ?_⟩
    walk_at "go"
    refine ⟨al, rfl, hal, fun H18 s18 => ?_⟩
    have e1418 : Ev S H14 H18 := (Ev.of_same hS14 sm17).trans (e17.trans (.of_same e17.src s18))
    walk_at "go"
    refine ⟨by decide, by decide, ?_⟩
    refine rng0_for (n := 3) (fun i σ H' => ∃ x11 x13 x14 x15 x16, σ = [some (.ref a), some (.ref s1), some (.ref s2), some (.ref s3), some (.ref s4), some (.str (SX.S al)), some (.ref PL), some (.ref RL), x8, x9, some (.ref TL), x11, some (.bl (decide (rs0 = rs1 ∧ g0 = g1))), x13, x14, x15, x16, x17] ∧ Ev S H14 H') ⟨_, _, _, _, _, rfl, e1418⟩ (fun i σ H' hi hq => ?_) (fun σ H' hq => ?_)
    · obtain ⟨x11, x13, x14, x15, x16, rfl, e1⟩ := hq
      obtain ⟨pa, ra, A, g, ia, ja, hma, hra, hwA, hgA⟩ := at2 (i % 2) (by omega)
      have hPL1 := e1.at hPLS hPL14
      walk_at "go"
      refine i_ixL hPL1 (by rw [← ia]; rfl) ?_
      walk_at "go"
      refine ⟨S, s4, al, pa, A, g, rfl, iS4, e1.src, hma.ev e1, hal, hwA, hgA, fun H2 e2 => ?_⟩
      walk_at "go"
      refine ⟨S, s4, al, rfl, iS4, e2.src, hal, fun q x tn j H3 e3 hq0 hq hx hzs' hf => ?_⟩
      refine i_unl2 (x := x) (y := .int j) hq rfl ?_
      walk_at "go"
      refine ⟨fault_log hf, ?_⟩
      walk_at "go"
      refine ⟨_, _, rfl, rfl, ?_, ?_⟩
      · rw [sizeLine_eq]
        have : ("item " : Str).length = 5 := by decide +kernel
        have := PyProof.Rows.int_text_len_1921 (fault_log hf)
        show _ + (Str.ofString (toString j)).length ≤ _
        omega
      walk_at "go"
      refine ⟨sz3, fun d hd => ?_⟩
      have e34 := Ev.laid (o := .lst [.str "value", .str ("item " ++ Str.ofString (toString j)), .str "text"]) e3.src hd
      have hd4 : Tells (upd H3 d (.lst [.str "value", .str ("item " ++ Str.ofString (toString j)), .str "text"])) d (iW j "text") := upd_same
      have hdS := e3.src.notin hd
      have hx4 := hx _ e34.kp
      generalize upd H3 d (.lst [.str "value", .str ("item " ++ Str.ofString (toString j)), .str "text"]) = H4 at *
      have e14 := e1.trans (e2.trans (e3.trans e34))
      have hRL4 := e14.at hRLS hRL14
      have hokT : ∀ w ∈ iW j "text", PyData.strOk w = true := iW_ok (by decide +kernel)
      walk_at "go"
      refine seq_for (t := false) hRL4 (fun n σ H' => ∃ x16, σ = [some (.ref a), some (.ref s1), some (.ref s2), some (.ref s3), some (.ref s4), some (.str (SX.S al)), some (.ref PL), some (.ref RL), x8, x9, some (.ref TL), some (.int (i : Int)), some (.bl (decide (rs0 = rs1 ∧ g0 = g1))), some x, some (.int j), some (.ref d), x16, x17] ∧ Same H4 H') ⟨_, rfl, .refl _⟩ (fun n σ H' _ ⟨_, _, s⟩ => s _ _ hRL4) (fun n v σ H' hv hq => ?_) (fun σ H' hq => ?_)
      · obtain ⟨x16, rfl, s5⟩ := hq
        have hn := (List.getElem?_eq_some_iff.mp hv).1
        obtain ⟨_, ra, A', g', _, ja, _, hra, hwA', _⟩ := at2 n hn
        have : v = .ref ra := by
          have h1 : atI ([.ref r0, .ref r1] : List V) (n : Int) = some v := atI_nat hv
          rw [ja] at h1
          exact (Option.some.inj h1).symm
        subst this
        have hra4 := (hra.ev e14).same s5
        walk_at "go"
        refine ⟨S, ra, al, A', g', x, tn, j, rfl, hra4, hal, hwA', hx4.same s5, hzs', hf, fun l1 H5 s5' _ hl1 => ?_⟩
        have s45 := s5.trans s5'
        walk_at "go"
        refine i_neStrsL hokT hokT hl1 (s45 _ _ hd4) ?_
        walk_at "go"
        refine ite_ndf rfl ?_
        walk_at "go"
        refine ⟨S, ra, al, A', g', x, tn, j, rfl, hra4.same s5', hal, hwA', hx4.same s45, hzs', hf, fun l2 H6 s6 _ hl2 => ?_⟩
        have s46 := s45.trans s6
        walk_at "go"
        refine i_neStrsL hokT hokT hl2 (s46 _ _ hd4) ?_
        walk_at "go"
        refine ite_ndf rfl ?_
        walk_at "go"
        exact ⟨_, rfl, s46⟩
      · obtain ⟨x16, rfl, s5⟩ := hq
        walk_at "go"
        exact ⟨_, _, _, _, _, rfl, e14.trans (.of_same e14.src s5)⟩
    obtain ⟨x11, x13, x14, x15, x16, rfl, e1⟩ := hq
    have hPL1 := e1.at hPLS hPL14
    have hRL1 := e1.at hRLS hRL14
    walk_at "go"
    refine ⟨S, al, p0, r0, TL, rs0, g0, zs, rfl, (hm0.ev e1).mach, hr0.ev e1, hal, hw0, hk0, e1.at hTLS hTL14, hzl, hzs, fun H2 s2' => ?_⟩
    have e2 := e1.trans (.of_same e1.src s2')
    have hPL2 := e2.at hPLS hPL14
    have hRL2 := e2.at hRLS hRL14
    walk_at "go"
    refine ⟨S, al, p1, r1, TL, rs1, g1, zs, rfl, (hm1.ev e2).mach, hr1.ev e2, hal, hw1, hk1, e2.at hTLS hTL14, hzl, hzs, fun H3 s3' => ?_⟩
    walk_at "go"
    exact k _
end
set_option maxHeartbeats 8000000
open X7
/-- a def of the top -/
def DX (K : PySem.W.Frag) (mg : Str → Option Value) (x : Str) (st : Stmt) : Prop := ∃ (f : Addr) (fd : FuncData), C8.Def K mg x st f fd ∧ fd.defaults = .none
def MX (K : PySem.W.Frag) (C : Addr) (m qual : Str) (st : Stmt) : Prop := ∃ (f : Addr) (fd : FuncData), C8.Fun K m qual st f fd ∧ fd.defaults = .none ∧ OwnM K C m f
def IX (K : PySem.W.Frag) (C : Addr) (qual : Str) (st : Stmt) : Prop := ∃ (f : Addr) (fd : FuncData), C8.Fun K "__init__" qual st f fd ∧ fd.defaults = .none ∧ Mk K C f
def OX (K : PySem.W.Frag) (C : Addr) (nm m qual : Str) (st : Stmt) : Prop := ∃ (f : Addr) (fd : FuncData), C8.Fun K m qual st f fd ∧ fd.defaults = .none ∧ ∃ (c : ClassData) (r : List Value), PySem.W.clsIn K C = some c ∧ c.mro = .ref C :: r ∧ PySem.W.findIn K (.ref C) nm = some (some (.ref f)) ∧ PySem.W.isFn K (.ref f) = true
def TX (K : PySem.W.Frag) (C : Addr) (m qual : Str) (st : Stmt) : Prop := ∃ (f : Addr) (fd : FuncData), C8.Fun K m qual st f fd ∧ fd.defaults = .none ∧ Meth K C m f
def SX' (K : PySem.W.Frag) (C : Addr) (m qual : Str) (st : Stmt) : Prop := ∃ (f p : Addr) (fd : FuncData) (r : List Value), C8.Fun K m qual st f fd ∧ fd.defaults = .none ∧ PySem.W.keepIn K (.ref f) = true ∧ PySem.W.specialIn K (.ref C) "__getattribute__" = some (some (.builtin "type.__getattribute__")) ∧ PySem.W.typeIn K (.ref C) = some (.type "type") ∧
    PySem.W.readsIn K C (.type "type") = true ∧ PySem.W.findCls K (.ref C) (.type "type") m = some (.get (.builtin "staticmethod.__get__") (.ref p) .none (.ref C)) ∧ PySem.W.recIn K p "staticmethod" = some (.ref f :: r) ∧ PySem.W.handedIn (.ref f) = true
section
variable {K : PySem.W.Frag} {mg : Str → Option Value} {h : Heap} {x m qual : Str} {st : Stmt} {f C : Addr} {oc kV dc pm cd ct : Value} {od an : Option Addr} {sl : Array (Option Value)}
theorem dx_mk (X : K.In h) (G : h.Ns mainGlobals mg) (a : PySem.W.nsIn K mainGlobals x = some (some (.ref f))) (l : K.lookup f = some ⟨oc, od, .func (PySem.W.fnOf x x (C8.fnArgs st) (C8.fnBody st) (C8.fnScope st) .none kV dc pm an cd ct), sl⟩)
    (c : PySem.W.codeIn K cd x = true) (k : PySem.W.keepIn K (.ref f) = true) : DX K mg x st := ⟨f, _, ⟨⟨oc, od, .none, kV, dc, pm, an, cd, ct, sl, rfl, l, c⟩, PySem.W.mg_of X G a, k⟩, rfl⟩
theorem mx_mk (a : PySem.W.findIn K (.ref C) m = some (some (.ref f))) (i : PySem.W.isFn K (.ref f) = true) (l : K.lookup f = some ⟨oc, od, .func (PySem.W.fnOf m qual (C8.fnArgs st) (C8.fnBody st) (C8.fnScope st) .none kV dc pm an cd ct), sl⟩)
    (c : PySem.W.codeIn K cd qual = true) : MX K C m qual st := ⟨f, _, ⟨oc, od, .none, kV, dc, pm, an, cd, ct, sl, rfl, l, c⟩, rfl, a, i⟩
theorem ox_mk {nm : Str} {c' : ClassData} {r : List Value} (a : PySem.W.findIn K (.ref C) nm = some (some (.ref f))) (i : PySem.W.isFn K (.ref f) = true) (l : K.lookup f = some ⟨oc, od, .func (PySem.W.fnOf m qual (C8.fnArgs st) (C8.fnBody st) (C8.fnScope st) .none kV dc pm an cd ct), sl⟩)
    (c : PySem.W.codeIn K cd qual = true) (hc : PySem.W.clsIn K C = some c') (hm : c'.mro = .ref C :: r) : OX K C nm m qual st := ⟨f, _, ⟨oc, od, .none, kV, dc, pm, an, cd, ct, sl, rfl, l, c⟩, rfl, c', r, hc, hm, a, i⟩
theorem tx_mk (a : PySem.W.findIn K (.ref C) m = some (some (.ref f))) (i : PySem.W.isFn K (.ref f) = true) (kp : PySem.W.keepIn K (.ref f) = true) (l : K.lookup f = some ⟨oc, od, .func (PySem.W.fnOf m qual (C8.fnArgs st) (C8.fnBody st) (C8.fnScope st) .none kV dc pm an cd ct), sl⟩)
    (c : PySem.W.codeIn K cd qual = true) : TX K C m qual st := ⟨f, _, ⟨oc, od, .none, kV, dc, pm, an, cd, ct, sl, rfl, l, c⟩, rfl, a, i, kp⟩
theorem st_mk {p : Addr} {r : List Value} (fc : PySem.W.findCls K (.ref C) (.type "type") m = some (.get (.builtin "staticmethod.__get__") (.ref p) .none (.ref C))) (rc : PySem.W.recIn K p "staticmethod" = some (.ref f :: r)) (l : K.lookup f = some ⟨oc, od, .func (PySem.W.fnOf m qual (C8.fnArgs st) (C8.fnBody st) (C8.fnScope st) .none kV dc pm an cd ct), sl⟩)
    (c : PySem.W.codeIn K cd qual = true) (kp : PySem.W.keepIn K (.ref f) = true) (sp : PySem.W.specialIn K (.ref C) "__getattribute__" = some (some (.builtin "type.__getattribute__"))) (ty : PySem.W.typeIn K (.ref C) = some (.type "type")) (rd : PySem.W.readsIn K C (.type "type") = true) (hd : PySem.W.handedIn (.ref f) = true) : SX' K C m qual st :=
  ⟨f, p, _, r, ⟨oc, od, .none, kV, dc, pm, an, cd, ct, sl, rfl, l, c⟩, rfl, kp, sp, ty, rd, fc, rc, hd⟩
theorem ix_mk (mk : PySem.W.makesIn K C = true) (a : PySem.W.findIn K (.ref C) "__init__" = some (some (.ref f))) (i : PySem.W.isFn K (.ref f) = true) (kc : PySem.W.keepIn K (.ref C) = true) (l : K.lookup f = some ⟨oc, od, .func (PySem.W.fnOf "__init__" qual (C8.fnArgs st) (C8.fnBody st) (C8.fnScope st) .none kV dc pm an cd ct), sl⟩)
    (c : PySem.W.codeIn K cd qual = true) : IX K C qual st := ⟨f, _, ⟨oc, od, .none, kV, dc, pm, an, cd, ct, sl, rfl, l, c⟩, rfl, mk, a, i, kc⟩
/-- an error's __init__, by its text alone -/
structure IniB (st : Stmt) (qual f : Str) (okv : V → Prop) : Prop where
  sn : NdefX.NScope ["self", f, "__class__"] ["self", f] ["__class__"] (C8.fnScope st)
  ks : (C8.fnScope st).names.lookup ("super" : Str) = some .globalImplicit
  bd : ∃ e : Expr, (∃ p0 p1 p2 p3 p4 q1 q2 q3 q4 : Pos, (p2.endLine == p3.line) = true ∧ C8.fnBody st = [.Expr (.Call (.Attribute (.Call (.Name "super" p0) [] [] p1) "__init__" p2) [e] [] p3) p4, .Assign [.Attribute (.Name "self" q1) f q2] (.Name f q3) q4]) ∧ ArgE e f okv
  pr : ∃ ar : Arg, ((C8.fnArgs st).posonlyargs ++ (C8.fnArgs st).args).head? = some ar ∧ ar.arg = "self"
  bs : ∀ (kV dc pm ct : Value) (an : Option Addr) (cda cc : Addr) (us : List Value), us.length = 2 → bindArgs (iniFd st qual kV dc pm ct an cda cc) ⟨us, []⟩ = pure ((["self", f] : List Str).zip us)
  d1 : (f == ("__debug__" : Str)) = false
  d2 : (f == ("__classdict__" : Str)) = false
def EX (P : Program) (K : PySem.W.Frag) (mg : Str → Option Value) (x : Str) (C D : Addr) (f : Str) (okv : V → Prop) : Prop := ∀ (w : World) (base : Heap), MakE P w K mg base x C D f okv
open PySem.HandSPX in
theorem ex_mk {P : Program} {fn : Str} {okv : V → Prop} {D fI cc cda : Addr} {ccl cl : Value} {cdd cld : Option Addr} {ccs csl : Array (Option Value)} {vs : Array Value} {file : Str} {tf : Tok} {nm q : Str} {N : Addr} {bs bm : List Value} {sn : List Str} {sub : List Value} {ab : Bool} {col : Option Bool} {dd : Option Addr} {k0 k1 k2 k3 k5 : Option Value} {c' : ClassData} (B : IniB st qual fn okv) (X : K.In h) (G : h.Ns mainGlobals mg)
    (aC : PySem.W.nsIn K mainGlobals x = some (some (.ref C))) (fi : PySem.W.findIn K (.ref C) "__init__" = some (some (.ref fI))) (tI : PySem.W.typeIn K (.ref fI) = some (.type "function"))
    (lk : K.lookup fI = some ⟨oc, od, .func (iniFd st qual kV dc pm ct an cda cc), sl⟩) (hcd : PySem.W.codeIn K (.ref cda) qual = true) (lc : K.lookup cda = some ⟨ccl, cdd, .fields vs, ccs⟩) (hvs : vs[2]? = some (.str file tf))
    (hfile : ((P.main.file : Str) == file) = true) (htop : (P.main.scope.names.lookup ("super" : Str)).isSome = false) (lcc : K.lookup cc = some ⟨cl, cld, .cell (some (.ref D)), csl⟩) (hsup : PySem.W.nsIn K mainGlobals "super" = some none)
    (ox : K.lookup C = some (excClassObj nm q C N bs bm true sn sub ab col dd k0 k1 k2 k3 k5 "ValueError.__new__")) (rv : PySem.HandSPX.refsVE bm = true) (sa : PySem.W.findIn K (.ref C) "__setattr__" = some (some (.builtin "object.__setattr__"))) (exC : PySem.W.subIn K (.ref C) (.type "BaseException") = some true)
    (tyC : PySem.W.typeIn K (.ref C) = some (.type "type")) (kC : PySem.W.keepIn K (.ref C) = true) (cD : PySem.W.clsIn K D = some c') (sb : PySem.W.mroIn K C (.ref D) = some true) (su : PySem.W.ks_superIn K C D "__init__" = some (some (.builtin "ValueError.__init__")))
    (sB : PySem.W.subIn K (.ref C) (.type "ValueError") = some true) (nf : PySem.W.findIn K (.ref C) fn = some none) (op : PySem.W.nsIn K cStatics "thirdparty.any" = some none) : EX P K mg x C D fn okv := fun w base => by
  obtain ⟨e, hbd, hE⟩ := B.bd
  exact ⟨⟨fI, _, _, ini_ok lk hcd lc hvs hfile htop lcc (PySem.W.mg_none_of X G hsup) B.sn B.ks hbd B.pr hE B.d1 B.d2, .all (B.bs _ _ _ _ _ _ _), fi, tI⟩, ⟨⟨⟨nm, q, N, bs, bm, sn, sub, ab, col, dd, k0, k1, k2, k3, k5, ox, rv⟩, sa, exC, tyC, kC⟩, ⟨_, cD⟩, sb, su, sB, nf, op⟩, PySem.W.mg_of X G aC⟩
def LX (K : PySem.W.Frag) (f : Addr) (st : Stmt) : Prop := ∃ fd : FuncData, C8.Fun K "law" "law" st f fd ∧ ∀ (s : Shared) (v : Value), BindsTo s fd ⟨[v], []⟩ [("script", v)]
theorem lx_mk (X : K.In h) (G : h.Ns mainGlobals mg) {fa : Addr} (hfa : mg "law" = some (.ref fa)) (a : PySem.W.nsIn K mainGlobals "law" = some (some (.ref f))) (l : K.lookup f = some ⟨oc, od, .func (PySem.W.fnOf "law" "law" (C8.fnArgs s_law) (C8.fnBody s_law) (C8.fnScope s_law) .none kV dc pm an cd ct), sl⟩)
    (c : PySem.W.codeIn K cd "law" = true) : LX K fa s_law := by
  have e := hfa.symm.trans (PySem.W.mg_of X G a)
  cases e
  exact ⟨_, ⟨oc, od, .none, kV, dc, pm, an, cd, ct, sl, rfl, l, c⟩, fun s v => .of_eq rfl⟩
end
theorem er_mk {K : PySem.W.Frag} {i_LotsError i_WrongThing i_BadAlphabet i_BadLetter i_BadNumber i_WrongItem i_BadText i_BadMoves i_BadGood i_BadLots i_BadTexts i_TooMany i_Unlike i_NoName E : Addr} {bT bI bA bM bG bX : Bool} (g_ex : PySem.W.exmOne K (.ref E) (.ref i_LotsError) = some true) (hg : PySem.W.findIn K (.ref E) "__getattribute__" = some (some (.builtin "BaseException.__getattribute__"))) (hk : PySem.W.findIn K (.ref E) "__getattr__" = some none) (hs : PySem.W.subIn K (.ref E) (.type "BaseException") = some true) (hd : PySem.W.hasDictIn K E = true) (ha : PySem.W.findIn K (.ref E) "__class__" = some (some (.builtin "object.__class__"))) (hn : PySem.W.specialIn K (.builtin "object.__class__") "__get__" = some (some (.builtin "getset_descriptor.__get__"))) (ht : PySem.W.takesIn K (.builtin "object.__class__") = some true) (hm : PySem.W.mroIn K E (.type "object") = some true) (g_nT : PySem.W.findIn K (.ref E) "thing" = some none) (g_nA : PySem.W.findIn K (.ref E) "at" = some none) (g_kv : PySem.W.kitOne K (.ref E) (.type "ValueError") = some true) (g_kT : PySem.W.kitOne K (.ref E) (.ref i_WrongThing) = some bT) (g_kI : PySem.W.kitOne K (.ref E) (.ref i_WrongItem) = some bI) (g_kA : PySem.W.kitOne K (.ref E) (.ref i_BadAlphabet) = some bA) (g_kM : PySem.W.kitOne K (.ref E) (.ref i_BadMoves) = some bM) (g_kG : PySem.W.kitOne K (.ref E) (.ref i_BadGood) = some bG) (g_kX : PySem.W.kitOne K (.ref E) (.ref i_BadText) = some bX) (g_ko : PySem.W.kitAny K (.ref E) [.ref i_BadLetter, .ref i_BadLots, .ref i_BadNumber, .ref i_BadTexts, .ref i_NoName, .ref i_TooMany, .ref i_Unlike] = some false) : ErF K ⟨i_LotsError, i_WrongThing, i_BadAlphabet, i_BadLetter, i_BadNumber, i_WrongItem, i_BadText, i_BadMoves, i_BadGood, i_BadLots, i_BadTexts, i_TooMany, i_Unlike, i_NoName⟩ E bT bI bA bM bG bX :=
  ⟨g_ex, ⟨hg, hk, hs, hd, ha, hn, ht, hm⟩, ⟨hg, hk, hs, hd⟩, g_nT, g_nA, g_kv, g_kT, g_kI, g_kA, g_kM, g_kG, g_kX, g_ko⟩
theorem txt_mk {K : PySem.W.Frag} {mg : Str → Option Value} {h : Heap} {C i_LotsError i_WrongThing i_BadAlphabet i_BadLetter i_BadNumber i_WrongItem i_BadText i_BadMoves i_BadGood i_BadLots i_BadTexts i_TooMany i_Unlike i_NoName : Addr} {t_c_MOST_ROOMS : Tok} {t_c_TEXT_LETTERS : Tok} {t_c_SMALL : Tok} (X : K.In h) (G : h.Ns mainGlobals mg)
    (z_b_int : PySem.W.nsIn K mainGlobals "int" = some none)
    (z_b_len : PySem.W.nsIn K mainGlobals "len" = some none)
    (z_b_abs : PySem.W.nsIn K mainGlobals "abs" = some none)
    (z_b_range : PySem.W.nsIn K mainGlobals "range" = some none)
    (z_b_tuple : PySem.W.nsIn K mainGlobals "tuple" = some none)
    (z_b_list : PySem.W.nsIn K mainGlobals "list" = some none)
    (z_b_isinstance : PySem.W.nsIn K mainGlobals "isinstance" = some none)
    (z_b_all : PySem.W.nsIn K mainGlobals "all" = some none)
    (z_b_any : PySem.W.nsIn K mainGlobals "any" = some none)
    (z_b_enumerate : PySem.W.nsIn K mainGlobals "enumerate" = some none)
    (z_b_min : PySem.W.nsIn K mainGlobals "min" = some none)
    (z_b_str : PySem.W.nsIn K mainGlobals "str" = some none)
    (z_b_bool : PySem.W.nsIn K mainGlobals "bool" = some none)
    (z_b_set : PySem.W.nsIn K mainGlobals "set" = some none)
    (z_b_repr : PySem.W.nsIn K mainGlobals "repr" = some none)
    (z_b_sum : PySem.W.nsIn K mainGlobals "sum" = some none)
    (z_b_sorted : PySem.W.nsIn K mainGlobals "sorted" = some none)
    (z_b_ValueError : PySem.W.nsIn K mainGlobals "ValueError" = some none)
    (z_b_super : PySem.W.nsIn K mainGlobals "super" = some none)
    (y_c_MOST_ROOMS : PySem.W.nsIn K mainGlobals "MOST_ROOMS" = some (some (.int 60 t_c_MOST_ROOMS)))
    (y_c_TEXT_LETTERS : PySem.W.nsIn K mainGlobals "TEXT_LETTERS" = some (some (.int 40 t_c_TEXT_LETTERS)))
    (y_c_SMALL : PySem.W.nsIn K mainGlobals "SMALL" = some (some (.str SMALL t_c_SMALL)))
    (pg_cl : PySem.W.plainGet K C Str.empty = true)
    (hd_cl : PySem.W.hasDictIn K C = true)
    (po_cl : PySem.W.plainOver K C = true)
    (sa_cl : PySem.W.findIn K (.ref C) "__setattr__" = some (some (.builtin "object.__setattr__")))
    (p_nA : PySem.W.findIn K (.ref C) "alphabet" = some none)
    (p_nM : PySem.W.findIn K (.ref C) "moves" = some none)
    (p_nG : PySem.W.findIn K (.ref C) "good" = some none)
    (a_mg_Reader : PySem.W.nsIn K mainGlobals "Reader" = some (some (.ref C)))
    (pg_ins : PySem.W.plainGet K C Str.empty = true)
    (hd_ins : PySem.W.hasDictIn K C = true)
    (po_ins : PySem.W.plainOver K C = true)
    (sa_ins : PySem.W.findIn K (.ref C) "__setattr__" = some (some (.builtin "object.__setattr__")))
    (ha_ins : PySem.W.findIn K (.ref C) "__class__" = some (some (.builtin "object.__class__")))
    (hm_ins : PySem.W.mroIn K C (.type "object") = some true)
    (hn_ins : PySem.W.specialIn K (.builtin "object.__class__") "__get__" = some (some (.builtin "getset_descriptor.__get__")))
    (htk_ins : PySem.W.takesIn K (.builtin "object.__class__") = some true)
    (p_ne : PySem.W.findIn K (.ref C) "__ne__" = some (some (.builtin "object.__ne__")))
    (p_mo : PySem.W.mroIn K C (.type "object") = some true)
    (p_kl : PySem.W.kitOne K (.ref C) (.type "list") = some false)
    (p_sT : PySem.W.subIn K (.type "tuple") (.ref C) = some false)
    (p_sS : PySem.W.subIn K (.type "str") (.ref C) = some false)
    (p_kT : PySem.W.kitOne K (.type "tuple") (.ref C) = some false)
    (p_kS : PySem.W.kitOne K (.type "str") (.ref C) = some false)
    (a_mg_LotsError : PySem.W.nsIn K mainGlobals "LotsError" = some (some (.ref i_LotsError)))
    (a_mg_WrongThing : PySem.W.nsIn K mainGlobals "WrongThing" = some (some (.ref i_WrongThing)))
    (a_mg_BadAlphabet : PySem.W.nsIn K mainGlobals "BadAlphabet" = some (some (.ref i_BadAlphabet)))
    (a_mg_BadLetter : PySem.W.nsIn K mainGlobals "BadLetter" = some (some (.ref i_BadLetter)))
    (a_mg_BadNumber : PySem.W.nsIn K mainGlobals "BadNumber" = some (some (.ref i_BadNumber)))
    (a_mg_WrongItem : PySem.W.nsIn K mainGlobals "WrongItem" = some (some (.ref i_WrongItem)))
    (a_mg_BadText : PySem.W.nsIn K mainGlobals "BadText" = some (some (.ref i_BadText)))
    (a_mg_BadMoves : PySem.W.nsIn K mainGlobals "BadMoves" = some (some (.ref i_BadMoves)))
    (a_mg_BadGood : PySem.W.nsIn K mainGlobals "BadGood" = some (some (.ref i_BadGood)))
    (a_mg_BadLots : PySem.W.nsIn K mainGlobals "BadLots" = some (some (.ref i_BadLots)))
    (a_mg_BadTexts : PySem.W.nsIn K mainGlobals "BadTexts" = some (some (.ref i_BadTexts)))
    (a_mg_TooMany : PySem.W.nsIn K mainGlobals "TooMany" = some (some (.ref i_TooMany)))
    (a_mg_Unlike : PySem.W.nsIn K mainGlobals "Unlike" = some (some (.ref i_Unlike)))
    (a_mg_NoName : PySem.W.nsIn K mainGlobals "NoName" = some (some (.ref i_NoName)))
    (e_eA : ErF K ⟨i_LotsError, i_WrongThing, i_BadAlphabet, i_BadLetter, i_BadNumber, i_WrongItem, i_BadText, i_BadMoves, i_BadGood, i_BadLots, i_BadTexts, i_TooMany, i_Unlike, i_NoName⟩ i_BadAlphabet true false true false false false)
    (e_eM : ErF K ⟨i_LotsError, i_WrongThing, i_BadAlphabet, i_BadLetter, i_BadNumber, i_WrongItem, i_BadText, i_BadMoves, i_BadGood, i_BadLots, i_BadTexts, i_TooMany, i_Unlike, i_NoName⟩ i_BadMoves false true false true false false)
    (e_eG : ErF K ⟨i_LotsError, i_WrongThing, i_BadAlphabet, i_BadLetter, i_BadNumber, i_WrongItem, i_BadText, i_BadMoves, i_BadGood, i_BadLots, i_BadTexts, i_TooMany, i_Unlike, i_NoName⟩ i_BadGood false true false false true false)
    (e_eX : ErF K ⟨i_LotsError, i_WrongThing, i_BadAlphabet, i_BadLetter, i_BadNumber, i_WrongItem, i_BadText, i_BadMoves, i_BadGood, i_BadLots, i_BadTexts, i_TooMany, i_Unlike, i_NoName⟩ i_BadText false true false false false true) : Txt K mg C ⟨i_LotsError, i_WrongThing, i_BadAlphabet, i_BadLetter, i_BadNumber, i_WrongItem, i_BadText, i_BadMoves, i_BadGood, i_BadLots, i_BadTexts, i_TooMany, i_Unlike, i_NoName⟩ :=
  ⟨PySem.W.mg_none_of X G z_b_int, PySem.W.mg_none_of X G z_b_len, PySem.W.mg_none_of X G z_b_abs, PySem.W.mg_none_of X G z_b_range, PySem.W.mg_none_of X G z_b_tuple, PySem.W.mg_none_of X G z_b_list, PySem.W.mg_none_of X G z_b_isinstance, PySem.W.mg_none_of X G z_b_all, PySem.W.mg_none_of X G z_b_any, PySem.W.mg_none_of X G z_b_enumerate, PySem.W.mg_none_of X G z_b_min, PySem.W.mg_none_of X G z_b_str, PySem.W.mg_none_of X G z_b_bool, PySem.W.mg_none_of X G z_b_set, PySem.W.mg_none_of X G z_b_repr, PySem.W.mg_none_of X G z_b_sum, PySem.W.mg_none_of X G z_b_sorted, PySem.W.mg_none_of X G z_b_ValueError, PySem.W.mg_none_of X G z_b_super, ⟨_, PySem.W.mg_of X G y_c_MOST_ROOMS, ⟨_, rfl⟩⟩, ⟨_, PySem.W.mg_of X G y_c_TEXT_LETTERS, ⟨_, rfl⟩⟩, ⟨_, PySem.W.mg_of X G y_c_SMALL, ⟨_, rfl⟩⟩, ⟨pg_cl, hd_cl, po_cl, sa_cl⟩, p_nA, p_nM, p_nG, PySem.W.mg_of X G a_mg_Reader, ⟨⟨pg_ins, hd_ins, po_ins, sa_ins⟩, ha_ins, hn_ins, htk_ins, hm_ins, if_pos (beq_self_eq_true _)⟩, p_ne, p_mo, p_kl, p_sT, p_sS, p_kT, p_kS, PySem.W.mg_of X G a_mg_LotsError, PySem.W.mg_of X G a_mg_WrongThing, PySem.W.mg_of X G a_mg_BadAlphabet, PySem.W.mg_of X G a_mg_BadLetter, PySem.W.mg_of X G a_mg_BadNumber, PySem.W.mg_of X G a_mg_WrongItem, PySem.W.mg_of X G a_mg_BadText, PySem.W.mg_of X G a_mg_BadMoves, PySem.W.mg_of X G a_mg_BadGood, PySem.W.mg_of X G a_mg_BadLots, PySem.W.mg_of X G a_mg_BadTexts, PySem.W.mg_of X G a_mg_TooMany, PySem.W.mg_of X G a_mg_Unlike, PySem.W.mg_of X G a_mg_NoName, e_eA, e_eM, e_eG, e_eX⟩
abbrev s_WrongItem : Stmt := inClass (top 6) 0
theorem ib_WrongItem : IniB s_WrongItem "WrongItem.__init__" "at" FmtOk := ⟨NdefX.nscope_by (by decide +kernel), by decide +kernel, ⟨_, ⟨_, _, _, _, _, _, _, _, _, by decide +kernel, rfl⟩, arg_fmt (by decide +kernel) (by decide +kernel) (by decide +kernel)⟩, ⟨_, rfl, by decide +kernel⟩, fun _ _ _ _ _ _ _ us hl => match us, hl with | [_, _], _ => rfl, by decide +kernel, by decide +kernel⟩
abbrev s_WrongThing : Stmt := inClass (top 2) 0
theorem ib_WrongThing : IniB s_WrongThing "WrongThing.__init__" "thing" (fun _ => True) := ⟨NdefX.nscope_by (by decide +kernel), by decide +kernel, ⟨_, ⟨_, _, _, _, _, _, _, _, _, by decide +kernel, rfl⟩, arg_str⟩, ⟨_, rfl, by decide +kernel⟩, fun _ _ _ _ _ _ _ us hl => match us, hl with | [_, _], _ => rfl, by decide +kernel, by decide +kernel⟩
theorem fin {P : Program} {w : World} {K : PySem.W.Frag} {mg : Str → Option Value} {C fa : Addr} {r : Er} (T : Txt K mg C r)
    (D_is_integer : DX K mg "is_integer" s_is_integer)
    (D_is_listed : DX K mg "is_listed" s_is_listed)
    (D_is_alphabet : DX K mg "is_alphabet" s_is_alphabet)
    (D_check_alphabet : DX K mg "check_alphabet" s_check_alphabet)
    (D_text_fault : DX K mg "text_fault" s_text_fault)
    (D_check_text : DX K mg "check_text" s_check_text)
    (D_checked_moves : DX K mg "checked_moves" s_checked_moves)
    (D_checked_good : DX K mg "checked_good" s_checked_good)
    (D_room_of : DX K mg "room_of" s_room_of)
    (D_law_pick : DX K mg "_law_pick" s_law_pick)
    (D_law_source : DX K mg "_law_source" s_law_source)
    (D_law_alphabet : DX K mg "_law_alphabet" s_law_alphabet)
    (D_law_word : DX K mg "_law_word" s_law_word)
    (D_law_reader : DX K mg "_law_reader" s_law_reader)
    (D_law_room : DX K mg "_law_room" s_law_room)
    (D_law_is_number : DX K mg "_law_is_number" s_law_is_number)
    (D_law_is_reader : DX K mg "_law_is_reader" s_law_is_reader)
    (D_law_words : DX K mg "_law_words" s_law_words)
    (D_law_making : DX K mg "_law_making" s_law_making)
    (D_law_rooming : DX K mg "_law_rooming" s_law_rooming)
    (D_law_finding : DX K mg "_law_finding" s_law_finding)
    (D_law_filling : DX K mg "_law_filling" s_law_filling)
    (D_law_letters : DX K mg "_law_letters" s_law_letters)
    (D_law_sized : DX K mg "_law_sized" s_law_sized)
    (D_law_passed : DX K mg "_law_passed" s_law_passed)
    (D_law_spoilt : DX K mg "_law_spoilt" s_law_spoilt)
    (D_law_right : DX K mg "_law_right" s_law_right)
    (D_law_ends : DX K mg "_law_ends" s_law_ends)
    (D_law_equal : DX K mg "_law_equal" s_law_equal)
    (D_law_wrong_alphabet : DX K mg "_law_wrong_alphabet" s_law_wrong_alphabet)
    (D_law_wrong_moves : DX K mg "_law_wrong_moves" s_law_wrong_moves)
    (D_law_wrong_good : DX K mg "_law_wrong_good" s_law_wrong_good)
    (D_law_wrong_text : DX K mg "_law_wrong_text" s_law_wrong_text)
    (D_law_refused : DX K mg "_law_refused" s_law_refused)
    (Mmak_Readerd_initd : IX K C "Reader.__init__" s_Readerd_initd)
    (Mmet_Reader_room : TX K C "room" "Reader.room" s_Reader_room)
    (Mown_Readerd_containsd : MX K C "__contains__" "Reader.__contains__" s_Readerd_containsd)
    (Mown_Readerd_lend : MX K C "__len__" "Reader.__len__" s_Readerd_lend)
    (Mown_Readerd_eqd : MX K C "__eq__" "Reader.__eq__" s_Readerd_eqd)
    (Mst_Reader_full : SX' K C "full" "Reader.full" s_Reader_full)
    (Mst_Reader_bare : SX' K C "bare" "Reader.bare" s_Reader_bare)
    (Ee_BadGood : EX P K mg "BadGood" r.BadGood r.WrongItem "at" FmtOk)
    (Ee_BadMoves : EX P K mg "BadMoves" r.BadMoves r.WrongItem "at" FmtOk)
    (Ee_BadAlphabet : EX P K mg "BadAlphabet" r.BadAlphabet r.WrongThing "thing" (fun _ => True))
    (Ee_BadText : EX P K mg "BadText" r.BadText r.WrongItem "at" FmtOk)
    (L : LX K fa s_law) : ∃ fd : FuncData, (∀ (s : Shared) (v : Value), BindsTo s fd ⟨[v], []⟩ [("script", v)]) ∧ ∀ base : Heap, K.In base → base.Ns mainGlobals mg → FnG P w K mg base C8.CX0 11 fa fd ["script"] (sp_law K) := by
  obtain ⟨fdL, FL, bL⟩ := L
  refine ⟨fdL, bL, fun base _ _ => ?_⟩
  have e_BadGood := Ee_BadGood w base
  have e_BadMoves := Ee_BadMoves w base
  have e_BadAlphabet := Ee_BadAlphabet w base
  have e_BadText := Ee_BadText w base
  obtain ⟨f_is_integer, fd_is_integer, F_is_integer, n_is_integer⟩ := D_is_integer
  have c_is_integer := ok_is_integer (P := P) (w := w) (base := base) F_is_integer T (C8.Fun.binds F_is_integer.fn n_is_integer (ps := ["thing", "low", "high"]) (fun _ _ _ _ _ _ us hl => match us, hl with | [_, _, _], _ => rfl)) 
  obtain ⟨f_is_listed, fd_is_listed, F_is_listed, n_is_listed⟩ := D_is_listed
  have c_is_listed := ok_is_listed (P := P) (w := w) (base := base) F_is_listed T (C8.Fun.binds F_is_listed.fn n_is_listed (ps := ["thing"]) (fun _ _ _ _ _ _ us hl => match us, hl with | [_], _ => rfl)) 
  obtain ⟨f_is_alphabet, fd_is_alphabet, F_is_alphabet, n_is_alphabet⟩ := D_is_alphabet
  have c_is_alphabet := ok_is_alphabet (P := P) (w := w) (base := base) F_is_alphabet T (C8.Fun.binds F_is_alphabet.fn n_is_alphabet (ps := ["thing"]) (fun _ _ _ _ _ _ us hl => match us, hl with | [_], _ => rfl)) 
  obtain ⟨f_check_alphabet, fd_check_alphabet, F_check_alphabet, n_check_alphabet⟩ := D_check_alphabet
  have c_check_alphabet := ok_check_alphabet (P := P) (w := w) (base := base) F_check_alphabet T (C8.Fun.binds F_check_alphabet.fn n_check_alphabet (ps := ["thing"]) (fun _ _ _ _ _ _ us hl => match us, hl with | [_], _ => rfl)) c_is_alphabet e_BadAlphabet
  obtain ⟨f_text_fault, fd_text_fault, F_text_fault, n_text_fault⟩ := D_text_fault
  have c_text_fault := ok_text_fault (P := P) (w := w) (base := base) F_text_fault T (C8.Fun.binds F_text_fault.fn n_text_fault (ps := ["alphabet", "thing", "most"]) (fun _ _ _ _ _ _ us hl => match us, hl with | [_, _, _], _ => rfl)) 
  obtain ⟨f_check_text, fd_check_text, F_check_text, n_check_text⟩ := D_check_text
  have c_check_text := ok_check_text (P := P) (w := w) (base := base) F_check_text T (C8.Fun.binds F_check_text.fn n_check_text (ps := ["alphabet", "thing"]) (fun _ _ _ _ _ _ us hl => match us, hl with | [_, _], _ => rfl)) c_text_fault e_BadText
  obtain ⟨f_checked_moves, fd_checked_moves, F_checked_moves, n_checked_moves⟩ := D_checked_moves
  have c_checked_moves := ok_checked_moves (P := P) (w := w) (base := base) F_checked_moves T (C8.Fun.binds F_checked_moves.fn n_checked_moves (ps := ["alphabet", "moves"]) (fun _ _ _ _ _ _ us hl => match us, hl with | [_, _], _ => rfl)) c_is_listed c_is_integer e_BadMoves
  obtain ⟨f_checked_good, fd_checked_good, F_checked_good, n_checked_good⟩ := D_checked_good
  have c_checked_good := ok_checked_good (P := P) (w := w) (base := base) F_checked_good T (C8.Fun.binds F_checked_good.fn n_checked_good (ps := ["moves", "good"]) (fun _ _ _ _ _ _ us hl => match us, hl with | [_, _], _ => rfl)) c_is_listed c_is_integer e_BadGood
  obtain ⟨f_makReaderd_initd, fd_makReaderd_initd, F_makReaderd_initd, n_makReaderd_initd, O_makReaderd_initd⟩ := Mmak_Readerd_initd
  have m_Reader : MakX P w K mg base _ "Reader" C _ := ⟨⟨f_makReaderd_initd, fd_makReaderd_initd, ["self", "alphabet", "moves", "good"], O_makReaderd_initd, ok_Readerd_initd (P := P) (w := w) (base := base) F_makReaderd_initd T c_check_alphabet c_checked_moves c_checked_good, T.mg_Reader, C8.Fun.binds F_makReaderd_initd n_makReaderd_initd (fun _ _ _ _ _ _ us hl => match us, hl with | [_, _, _, _], _ => rfl)⟩⟩
  obtain ⟨f_room_of, fd_room_of, F_room_of, n_room_of⟩ := D_room_of
  have c_room_of := ok_room_of (P := P) (w := w) (base := base) F_room_of T (C8.Fun.binds F_room_of.fn n_room_of (ps := ["reader", "text"]) (fun _ _ _ _ _ _ us hl => match us, hl with | [_, _], _ => rfl)) 
  obtain ⟨f_metReader_room, fd_metReader_room, F_metReader_room, n_metReader_room, O_metReader_room⟩ := Mmet_Reader_room
  have x_room : MetX P w K mg base _ C "room" _ := ⟨⟨f_metReader_room, fd_metReader_room, ["self", "text"], T.cl, O_metReader_room, ok_Reader_room (P := P) (w := w) (base := base) F_metReader_room T c_check_text c_room_of, C8.Fun.binds F_metReader_room n_metReader_room (fun _ _ _ _ _ _ us hl => match us, hl with | [_, _], _ => rfl)⟩⟩
  obtain ⟨f_ownReaderd_containsd, fd_ownReaderd_containsd, F_ownReaderd_containsd, n_ownReaderd_containsd, O_ownReaderd_containsd⟩ := Mown_Readerd_containsd
  have x_in : InX P w K mg base _ C _ := ⟨⟨f_ownReaderd_containsd, fd_ownReaderd_containsd, ["self", "text"], ok_Readerd_containsd (P := P) (w := w) (base := base) F_ownReaderd_containsd T c_check_text c_room_of, O_ownReaderd_containsd, C8.Fun.binds F_ownReaderd_containsd n_ownReaderd_containsd (fun _ _ _ _ _ _ us hl => match us, hl with | [_, _], _ => rfl)⟩⟩
  obtain ⟨f_ownReaderd_lend, fd_ownReaderd_lend, F_ownReaderd_lend, n_ownReaderd_lend, O_ownReaderd_lend⟩ := Mown_Readerd_lend
  have o_len : OwnCal P w K mg base _ C "__len__" _ := ⟨f_ownReaderd_lend, fd_ownReaderd_lend, ["self"], ok_Readerd_lend (P := P) (w := w) (base := base) F_ownReaderd_lend T , O_ownReaderd_lend, C8.Fun.binds F_ownReaderd_lend n_ownReaderd_lend (fun _ _ _ _ _ _ us hl => match us, hl with | [_], _ => rfl)⟩
  obtain ⟨f_ownReaderd_eqd, fd_ownReaderd_eqd, F_ownReaderd_eqd, n_ownReaderd_eqd, O_ownReaderd_eqd⟩ := Mown_Readerd_eqd
  have o_eq : OwnCal P w K mg base _ C "__eq__" _ := ⟨f_ownReaderd_eqd, fd_ownReaderd_eqd, ["self", "other"], ok_Readerd_eqd (P := P) (w := w) (base := base) F_ownReaderd_eqd T , O_ownReaderd_eqd, C8.Fun.binds F_ownReaderd_eqd n_ownReaderd_eqd (fun _ _ _ _ _ _ us hl => match us, hl with | [_, _], _ => rfl)⟩
  obtain ⟨f_stReader_full, p_stReader_full, fd_stReader_full, r_stReader_full, F_stReader_full, n_stReader_full, kp_stReader_full, sp_stReader_full, ty_stReader_full, rd_stReader_full, fc_stReader_full, rc_stReader_full, hd_stReader_full⟩ := Mst_Reader_full
  have s_full : StX P w K mg base _ "Reader" C "full" _ := ⟨⟨f_stReader_full, p_stReader_full, fd_stReader_full, ["alphabet"], r_stReader_full, ok_Reader_full (P := P) (w := w) (base := base) F_stReader_full T c_check_alphabet m_Reader, C8.Fun.binds F_stReader_full n_stReader_full (fun _ _ _ _ _ _ us hl => match us, hl with | [_], _ => rfl), T.mg_Reader, kp_stReader_full, sp_stReader_full, ty_stReader_full, rd_stReader_full, fc_stReader_full, rc_stReader_full, hd_stReader_full⟩⟩
  obtain ⟨f_stReader_bare, p_stReader_bare, fd_stReader_bare, r_stReader_bare, F_stReader_bare, n_stReader_bare, kp_stReader_bare, sp_stReader_bare, ty_stReader_bare, rd_stReader_bare, fc_stReader_bare, rc_stReader_bare, hd_stReader_bare⟩ := Mst_Reader_bare
  have s_bare : StX P w K mg base _ "Reader" C "bare" _ := ⟨⟨f_stReader_bare, p_stReader_bare, fd_stReader_bare, ["alphabet"], r_stReader_bare, ok_Reader_bare (P := P) (w := w) (base := base) F_stReader_bare T c_check_alphabet m_Reader, C8.Fun.binds F_stReader_bare n_stReader_bare (fun _ _ _ _ _ _ us hl => match us, hl with | [_], _ => rfl), T.mg_Reader, kp_stReader_bare, sp_stReader_bare, ty_stReader_bare, rd_stReader_bare, fc_stReader_bare, rc_stReader_bare, hd_stReader_bare⟩⟩
  obtain ⟨f_law_pick, fd_law_pick, F_law_pick, n_law_pick⟩ := D_law_pick
  have c_law_pick := ok_law_pick (P := P) (w := w) (base := base) F_law_pick T (C8.Fun.binds F_law_pick.fn n_law_pick (ps := ["source", "many"]) (fun _ _ _ _ _ _ us hl => match us, hl with | [_, _], _ => rfl)) 
  obtain ⟨f_law_source, fd_law_source, F_law_source, n_law_source⟩ := D_law_source
  have c_law_source := ok_law_source (P := P) (w := w) (base := base) F_law_source T (C8.Fun.binds F_law_source.fn n_law_source (ps := ["script", "place"]) (fun _ _ _ _ _ _ us hl => match us, hl with | [_, _], _ => rfl)) 
  obtain ⟨f_law_alphabet, fd_law_alphabet, F_law_alphabet, n_law_alphabet⟩ := D_law_alphabet
  have c_law_alphabet := ok_law_alphabet (P := P) (w := w) (base := base) F_law_alphabet T (C8.Fun.binds F_law_alphabet.fn n_law_alphabet (ps := ["source"]) (fun _ _ _ _ _ _ us hl => match us, hl with | [_], _ => rfl)) c_law_pick
  obtain ⟨f_law_word, fd_law_word, F_law_word, n_law_word⟩ := D_law_word
  have c_law_word := ok_law_word (P := P) (w := w) (base := base) F_law_word T (C8.Fun.binds F_law_word.fn n_law_word (ps := ["source", "alphabet", "most"]) (fun _ _ _ _ _ _ us hl => match us, hl with | [_, _, _], _ => rfl)) c_law_pick
  obtain ⟨f_law_reader, fd_law_reader, F_law_reader, n_law_reader⟩ := D_law_reader
  have c_law_reader := ok_law_reader (P := P) (w := w) (base := base) F_law_reader T (C8.Fun.binds F_law_reader.fn n_law_reader (ps := ["source", "many", "most"]) (fun _ _ _ _ _ _ us hl => match us, hl with | [_, _, _], _ => rfl)) c_law_pick
  obtain ⟨f_law_room, fd_law_room, F_law_room, n_law_room⟩ := D_law_room
  have c_law_room := ok_law_room (P := P) (w := w) (base := base) F_law_room T (C8.Fun.binds F_law_room.fn n_law_room (ps := ["alphabet", "moves", "text"]) (fun _ _ _ _ _ _ us hl => match us, hl with | [_, _, _], _ => rfl)) 
  obtain ⟨f_law_is_number, fd_law_is_number, F_law_is_number, n_law_is_number⟩ := D_law_is_number
  have c_law_is_number := ok_law_is_number (P := P) (w := w) (base := base) F_law_is_number T (C8.Fun.binds F_law_is_number.fn n_law_is_number (ps := ["thing", "low", "high"]) (fun _ _ _ _ _ _ us hl => match us, hl with | [_, _, _], _ => rfl)) 
  obtain ⟨f_law_is_reader, fd_law_is_reader, F_law_is_reader, n_law_is_reader⟩ := D_law_is_reader
  have c_law_is_reader := ok_law_is_reader (P := P) (w := w) (base := base) F_law_is_reader T (C8.Fun.binds F_law_is_reader.fn n_law_is_reader (ps := ["reader", "alphabet"]) (fun _ _ _ _ _ _ us hl => match us, hl with | [_, _], _ => rfl)) c_law_is_number
  obtain ⟨f_law_words, fd_law_words, F_law_words, n_law_words⟩ := D_law_words
  have c_law_words := ok_law_words (P := P) (w := w) (base := base) F_law_words T (C8.Fun.binds F_law_words.fn n_law_words (ps := ["error"]) (fun _ _ _ _ _ _ us hl => match us, hl with | [_], _ => rfl)) 
  obtain ⟨f_law_making, fd_law_making, F_law_making, n_law_making⟩ := D_law_making
  have c_law_making := ok_law_making (P := P) (w := w) (base := base) F_law_making T (C8.Fun.binds F_law_making.fn n_law_making (ps := ["alphabet", "moves", "good"]) (fun _ _ _ _ _ _ us hl => match us, hl with | [_, _, _], _ => rfl)) c_law_words m_Reader
  obtain ⟨f_law_rooming, fd_law_rooming, F_law_rooming, n_law_rooming⟩ := D_law_rooming
  have c_law_rooming := ok_law_rooming (P := P) (w := w) (base := base) F_law_rooming T (C8.Fun.binds F_law_rooming.fn n_law_rooming (ps := ["reader", "text"]) (fun _ _ _ _ _ _ us hl => match us, hl with | [_, _], _ => rfl)) c_law_words x_room
  obtain ⟨f_law_finding, fd_law_finding, F_law_finding, n_law_finding⟩ := D_law_finding
  have c_law_finding := ok_law_finding (P := P) (w := w) (base := base) F_law_finding T (C8.Fun.binds F_law_finding.fn n_law_finding (ps := ["reader", "text"]) (fun _ _ _ _ _ _ us hl => match us, hl with | [_, _], _ => rfl)) c_law_words x_in
  obtain ⟨f_law_filling, fd_law_filling, F_law_filling, n_law_filling⟩ := D_law_filling
  have c_law_filling := ok_law_filling (P := P) (w := w) (base := base) F_law_filling T (C8.Fun.binds F_law_filling.fn n_law_filling (ps := ["alphabet"]) (fun _ _ _ _ _ _ us hl => match us, hl with | [_], _ => rfl)) c_law_words s_full s_bare o_len
  obtain ⟨f_law_letters, fd_law_letters, F_law_letters, n_law_letters⟩ := D_law_letters
  have c_law_letters := ok_law_letters (P := P) (w := w) (base := base) F_law_letters T (C8.Fun.binds F_law_letters.fn n_law_letters (ps := ["source", "alphabet", "size"]) (fun _ _ _ _ _ _ us hl => match us, hl with | [_, _, _], _ => rfl)) c_law_pick
  obtain ⟨f_law_sized, fd_law_sized, F_law_sized, n_law_sized⟩ := D_law_sized
  have c_law_sized := ok_law_sized (P := P) (w := w) (base := base) F_law_sized T (C8.Fun.binds F_law_sized.fn n_law_sized (ps := ["source", "many"]) (fun _ _ _ _ _ _ us hl => match us, hl with | [_, _], _ => rfl)) c_law_pick c_law_reader
  obtain ⟨f_law_passed, fd_law_passed, F_law_passed, n_law_passed⟩ := D_law_passed
  have c_law_passed := ok_law_passed (P := P) (w := w) (base := base) F_law_passed T (C8.Fun.binds F_law_passed.fn n_law_passed (ps := ["source", "told"]) (fun _ _ _ _ _ _ us hl => match us, hl with | [_, _], _ => rfl)) c_law_pick
  obtain ⟨f_law_spoilt, fd_law_spoilt, F_law_spoilt, n_law_spoilt⟩ := D_law_spoilt
  have c_law_spoilt := ok_law_spoilt (P := P) (w := w) (base := base) F_law_spoilt T (C8.Fun.binds F_law_spoilt.fn n_law_spoilt (ps := ["passed"]) (fun _ _ _ _ _ _ us hl => match us, hl with | [_], _ => rfl)) 
  obtain ⟨f_law_right, fd_law_right, F_law_right, n_law_right⟩ := D_law_right
  have c_law_right := ok_law_right (P := P) (w := w) (base := base) F_law_right T (C8.Fun.binds F_law_right.fn n_law_right (ps := ["alphabet", "told", "reader", "texts"]) (fun _ _ _ _ _ _ us hl => match us, hl with | [_, _, _, _], _ => rfl)) c_law_is_reader c_law_is_number c_law_room x_room x_in o_len
  obtain ⟨f_law_ends, fd_law_ends, F_law_ends, n_law_ends⟩ := D_law_ends
  have c_law_ends := ok_law_ends (P := P) (w := w) (base := base) F_law_ends T (C8.Fun.binds F_law_ends.fn n_law_ends (ps := ["alphabet"]) (fun _ _ _ _ _ _ us hl => match us, hl with | [_], _ => rfl)) c_law_is_reader s_full s_bare
  obtain ⟨f_law_equal, fd_law_equal, F_law_equal, n_law_equal⟩ := D_law_equal
  have c_law_equal := ok_law_equal (P := P) (w := w) (base := base) F_law_equal T (C8.Fun.binds F_law_equal.fn n_law_equal (ps := ["alphabet", "told", "reader", "source"]) (fun _ _ _ _ _ _ us hl => match us, hl with | [_, _, _, _], _ => rfl)) c_law_pick m_Reader o_eq
  obtain ⟨f_law_wrong_alphabet, fd_law_wrong_alphabet, F_law_wrong_alphabet, n_law_wrong_alphabet⟩ := D_law_wrong_alphabet
  have c_law_wrong_alphabet := ok_law_wrong_alphabet (P := P) (w := w) (base := base) F_law_wrong_alphabet T (C8.Fun.binds F_law_wrong_alphabet.fn n_law_wrong_alphabet (ps := ["source"]) (fun _ _ _ _ _ _ us hl => match us, hl with | [_], _ => rfl)) c_law_pick
  obtain ⟨f_law_wrong_moves, fd_law_wrong_moves, F_law_wrong_moves, n_law_wrong_moves⟩ := D_law_wrong_moves
  have c_law_wrong_moves := ok_law_wrong_moves (P := P) (w := w) (base := base) F_law_wrong_moves T (C8.Fun.binds F_law_wrong_moves.fn n_law_wrong_moves (ps := ["source", "told", "many"]) (fun _ _ _ _ _ _ us hl => match us, hl with | [_, _, _], _ => rfl)) c_law_pick
  obtain ⟨f_law_wrong_good, fd_law_wrong_good, F_law_wrong_good, n_law_wrong_good⟩ := D_law_wrong_good
  have c_law_wrong_good := ok_law_wrong_good (P := P) (w := w) (base := base) F_law_wrong_good T (C8.Fun.binds F_law_wrong_good.fn n_law_wrong_good (ps := ["source", "size", "told"]) (fun _ _ _ _ _ _ us hl => match us, hl with | [_, _, _], _ => rfl)) c_law_pick
  obtain ⟨f_law_wrong_text, fd_law_wrong_text, F_law_wrong_text, n_law_wrong_text⟩ := D_law_wrong_text
  have c_law_wrong_text := ok_law_wrong_text (P := P) (w := w) (base := base) F_law_wrong_text T (C8.Fun.binds F_law_wrong_text.fn n_law_wrong_text (ps := ["source", "alphabet"]) (fun _ _ _ _ _ _ us hl => match us, hl with | [_, _], _ => rfl)) c_law_pick c_law_letters
  obtain ⟨f_law_refused, fd_law_refused, F_law_refused, n_law_refused⟩ := D_law_refused
  have c_law_refused := ok_law_refused (P := P) (w := w) (base := base) F_law_refused T (C8.Fun.binds F_law_refused.fn n_law_refused (ps := ["source", "alphabet", "told"]) (fun _ _ _ _ _ _ us hl => match us, hl with | [_, _, _], _ => rfl)) c_law_wrong_alphabet c_law_wrong_moves c_law_wrong_good c_law_making c_law_pick c_law_filling
  exact ok_law FL T c_law_source c_law_alphabet c_law_sized c_law_passed c_law_spoilt c_law_letters c_law_word c_law_right c_law_equal c_law_ends c_law_refused c_law_wrong_text c_law_finding c_law_rooming m_Reader o_eq
theorem bits_lt {z : Int} {n : Nat} (h : Builtin.Int.intBits z ≤ n) : z.natAbs < 2 ^ n := by
  have e : z.natAbs < 2 ^ (Builtin.Int.intBits z) := by
    unfold Builtin.Int.intBits
    split
    · rename_i h0
      simp_all
    · exact Nat.lt_log2_self
  exact Nat.lt_of_lt_of_le e (Nat.pow_le_pow_right (by decide) h)
theorem walk {l : PySem.W.OpenLaw} {q : Program} {loose : List Str} {XP : (Str → Option Value) → Heap → Prop} {YP : World → Heap → Prop} {d : DefRec} {K : Params → PySem.W.Frag} (hn : l.most = some 63) (hdf : d.params.defaults = [])
    (hY : ∀ (w : World) (h : Heap), YP w h → (K w.params).In h)
    (F : ∀ (w : World) (mg : Str → Option Value) (fa : Addr) (h : Heap), (K w.params).In h → h.Ns mainGlobals mg → mg d.name = some (.ref fa) →
      ∃ fd : FuncData, (∀ (s : Shared) (u : Value), BindsTo s fd ⟨[u], []⟩ [("script", u)]) ∧ ∀ base : Heap, (K w.params).In base → base.Ns mainGlobals mg → FnG l.prog w (K w.params) mg base C8.CX0 11 fa fd ["script"] (sp_law (K w.params))) :
    PySem.W.WalkO q loose XP YP l.row.toRowW d [] (fun f vs => PySem.call f vs) :=
  walk_ofG (n := 63) (k := 11) (x := "script") (sp := fun w => sp_law (K w.params)) hn (by decide) hdf ⟨by first | rfl | decide, by decide, by decide⟩ hY F (fun _ _ a ns hl hbits _ hS => ⟨a, ns, rfl, hS, hl, fun n hn => bits_lt (hbits n hn), fun _ => rfl⟩)
end X
open PySem PySem.W PyProof.Rows
set_option maxRecDepth 100000 in
set_option maxHeartbeats 0 in
theorem PySem.Challenge.cw_untoldlots_k07_reader_kept_holds : PySem.Challenge.rw_untoldlots_k07_reader_kept.Holds := by
  w_on; o_law; k_head; (case hw => w_witness2)
  k_fill
  refine X.walk (l := PySem.Challenge.rw_untoldlots_k07_reader_kept) rfl rfl (fun w h Y => PySem.W.kIn_of Y) ?F
  case F =>
    intro w mg fa h KX G hmg
    refine' X.fin (X.txt_mk KX G ?tt_z_b_int ?tt_z_b_len ?tt_z_b_abs ?tt_z_b_range ?tt_z_b_tuple ?tt_z_b_list ?tt_z_b_isinstance ?tt_z_b_all ?tt_z_b_any ?tt_z_b_enumerate ?tt_z_b_min ?tt_z_b_str ?tt_z_b_bool ?tt_z_b_set ?tt_z_b_repr ?tt_z_b_sum ?tt_z_b_sorted ?tt_z_b_ValueError ?tt_z_b_super ?tt_y_c_MOST_ROOMS ?tt_y_c_TEXT_LETTERS ?tt_y_c_SMALL ?tt_pg_cl ?tt_hd_cl ?tt_po_cl ?tt_sa_cl ?tt_p_nA ?tt_p_nM ?tt_p_nG ?tt_a_mg_Reader ?tt_pg_ins ?tt_hd_ins ?tt_po_ins ?tt_sa_ins ?tt_ha_ins ?tt_hm_ins ?tt_hn_ins ?tt_htk_ins ?tt_p_ne ?tt_p_mo ?tt_p_kl ?tt_p_sT ?tt_p_sS ?tt_p_kT ?tt_p_kS ?tt_a_mg_LotsError ?tt_a_mg_WrongThing ?tt_a_mg_BadAlphabet ?tt_a_mg_BadLetter ?tt_a_mg_BadNumber ?tt_a_mg_WrongItem ?tt_a_mg_BadText ?tt_a_mg_BadMoves ?tt_a_mg_BadGood ?tt_a_mg_BadLots ?tt_a_mg_BadTexts ?tt_a_mg_TooMany ?tt_a_mg_Unlike ?tt_a_mg_NoName ?tt_e_eA ?tt_e_eM ?tt_e_eG ?tt_e_eX) ?d_is_integer ?d_is_listed ?d_is_alphabet ?d_check_alphabet ?d_text_fault ?d_check_text ?d_checked_moves ?d_checked_good ?d_room_of ?d_law_pick ?d_law_source ?d_law_alphabet ?d_law_word ?d_law_reader ?d_law_room ?d_law_is_number ?d_law_is_reader ?d_law_words ?d_law_making ?d_law_rooming ?d_law_finding ?d_law_filling ?d_law_letters ?d_law_sized ?d_law_passed ?d_law_spoilt ?d_law_right ?d_law_ends ?d_law_equal ?d_law_wrong_alphabet ?d_law_wrong_moves ?d_law_wrong_good ?d_law_wrong_text ?d_law_refused ?mmak_Readerd_initd ?mmet_Reader_room ?mown_Readerd_containsd ?mown_Readerd_lend ?mown_Readerd_eqd ?mst_Reader_full ?mst_Reader_bare ?xe_BadGood ?xe_BadMoves ?xe_BadAlphabet ?xe_BadText ?d_law
    (case tt_a_mg_Reader => k_is)
    (case tt_a_mg_LotsError => k_is)
    (case tt_a_mg_WrongThing => k_is)
    (case tt_a_mg_BadAlphabet => k_is)
    (case tt_a_mg_BadLetter => k_is)
    (case tt_a_mg_BadNumber => k_is)
    (case tt_a_mg_WrongItem => k_is)
    (case tt_a_mg_BadText => k_is)
    (case tt_a_mg_BadMoves => k_is)
    (case tt_a_mg_BadGood => k_is)
    (case tt_a_mg_BadLots => k_is)
    (case tt_a_mg_BadTexts => k_is)
    (case tt_a_mg_TooMany => k_is)
    (case tt_a_mg_Unlike => k_is)
    (case tt_a_mg_NoName => k_is)
    (case tt_z_b_int => k_is)
    (case tt_z_b_len => k_is)
    (case tt_z_b_abs => k_is)
    (case tt_z_b_range => k_is)
    (case tt_z_b_tuple => k_is)
    (case tt_z_b_list => k_is)
    (case tt_z_b_isinstance => k_is)
    (case tt_z_b_all => k_is)
    (case tt_z_b_any => k_is)
    (case tt_z_b_enumerate => k_is)
    (case tt_z_b_min => k_is)
    (case tt_z_b_str => k_is)
    (case tt_z_b_bool => k_is)
    (case tt_z_b_set => k_is)
    (case tt_z_b_repr => k_is)
    (case tt_z_b_sum => k_is)
    (case tt_z_b_sorted => k_is)
    (case tt_z_b_ValueError => k_is)
    (case tt_z_b_super => k_is)
    (case tt_y_c_MOST_ROOMS => k_is)
    (case tt_y_c_TEXT_LETTERS => k_is)
    (case tt_y_c_SMALL => k_is)
    (case tt_pg_cl => k_is)
    (case tt_hd_cl => k_is)
    (case tt_po_cl => k_is)
    (case tt_sa_cl => k_is)
    (case tt_p_nA => k_is)
    (case tt_p_nM => k_is)
    (case tt_p_nG => k_is)
    (case tt_pg_ins => k_is)
    (case tt_hd_ins => k_is)
    (case tt_po_ins => k_is)
    (case tt_sa_ins => k_is)
    (case tt_ha_ins => k_is)
    (case tt_hm_ins => k_is)
    (case tt_hn_ins => k_is)
    (case tt_htk_ins => k_is)
    (case tt_p_ne => (first | k_is | rfl | kernel_rfl | decide +kernel))
    (case tt_p_mo => (first | k_is | rfl | kernel_rfl | decide +kernel))
    (case tt_p_kl => (first | k_is | rfl | kernel_rfl | decide +kernel))
    (case tt_p_sT => (first | k_is | rfl | kernel_rfl | decide +kernel))
    (case tt_p_sS => (first | k_is | rfl | kernel_rfl | decide +kernel))
    (case tt_p_kT => (first | k_is | rfl | kernel_rfl | decide +kernel))
    (case tt_p_kS => (first | k_is | rfl | kernel_rfl | decide +kernel))
    (case tt_e_eA => refine' X.er_mk ?g_ex ?hg ?hk ?hs ?hd ?ha ?hn ?ht ?hm ?g_nT ?g_nA ?g_kv ?g_kT ?g_kI ?g_kA ?g_kM ?g_kG ?g_kX ?g_ko; (case g_ex => (first | k_is | rfl | kernel_rfl | decide +kernel)); (case hg => k_is); (case hk => k_is); (case hs => k_is); (case hd => k_is); (case ha => k_is); (case hn => k_is); (case ht => k_is); (case hm => k_is); (case g_nT => (first | k_is | rfl | kernel_rfl | decide +kernel)); (case g_nA => (first | k_is | rfl | kernel_rfl | decide +kernel)); (case g_kv => (first | k_is | rfl | kernel_rfl | decide +kernel)); (case g_kT => (first | k_is | rfl | kernel_rfl | decide +kernel)); (case g_kI => (first | k_is | rfl | kernel_rfl | decide +kernel)); (case g_kA => (first | k_is | rfl | kernel_rfl | decide +kernel)); (case g_kM => (first | k_is | rfl | kernel_rfl | decide +kernel)); (case g_kG => (first | k_is | rfl | kernel_rfl | decide +kernel)); (case g_kX => (first | k_is | rfl | kernel_rfl | decide +kernel)); (case g_ko => (first | k_is | rfl | kernel_rfl | decide +kernel)))
    (case tt_e_eM => refine' X.er_mk ?g_ex ?hg ?hk ?hs ?hd ?ha ?hn ?ht ?hm ?g_nT ?g_nA ?g_kv ?g_kT ?g_kI ?g_kA ?g_kM ?g_kG ?g_kX ?g_ko; (case g_ex => (first | k_is | rfl | kernel_rfl | decide +kernel)); (case hg => k_is); (case hk => k_is); (case hs => k_is); (case hd => k_is); (case ha => k_is); (case hn => k_is); (case ht => k_is); (case hm => k_is); (case g_nT => (first | k_is | rfl | kernel_rfl | decide +kernel)); (case g_nA => (first | k_is | rfl | kernel_rfl | decide +kernel)); (case g_kv => (first | k_is | rfl | kernel_rfl | decide +kernel)); (case g_kT => (first | k_is | rfl | kernel_rfl | decide +kernel)); (case g_kI => (first | k_is | rfl | kernel_rfl | decide +kernel)); (case g_kA => (first | k_is | rfl | kernel_rfl | decide +kernel)); (case g_kM => (first | k_is | rfl | kernel_rfl | decide +kernel)); (case g_kG => (first | k_is | rfl | kernel_rfl | decide +kernel)); (case g_kX => (first | k_is | rfl | kernel_rfl | decide +kernel)); (case g_ko => (first | k_is | rfl | kernel_rfl | decide +kernel)))
    (case tt_e_eG => refine' X.er_mk ?g_ex ?hg ?hk ?hs ?hd ?ha ?hn ?ht ?hm ?g_nT ?g_nA ?g_kv ?g_kT ?g_kI ?g_kA ?g_kM ?g_kG ?g_kX ?g_ko; (case g_ex => (first | k_is | rfl | kernel_rfl | decide +kernel)); (case hg => k_is); (case hk => k_is); (case hs => k_is); (case hd => k_is); (case ha => k_is); (case hn => k_is); (case ht => k_is); (case hm => k_is); (case g_nT => (first | k_is | rfl | kernel_rfl | decide +kernel)); (case g_nA => (first | k_is | rfl | kernel_rfl | decide +kernel)); (case g_kv => (first | k_is | rfl | kernel_rfl | decide +kernel)); (case g_kT => (first | k_is | rfl | kernel_rfl | decide +kernel)); (case g_kI => (first | k_is | rfl | kernel_rfl | decide +kernel)); (case g_kA => (first | k_is | rfl | kernel_rfl | decide +kernel)); (case g_kM => (first | k_is | rfl | kernel_rfl | decide +kernel)); (case g_kG => (first | k_is | rfl | kernel_rfl | decide +kernel)); (case g_kX => (first | k_is | rfl | kernel_rfl | decide +kernel)); (case g_ko => (first | k_is | rfl | kernel_rfl | decide +kernel)))
    (case tt_e_eX => refine' X.er_mk ?g_ex ?hg ?hk ?hs ?hd ?ha ?hn ?ht ?hm ?g_nT ?g_nA ?g_kv ?g_kT ?g_kI ?g_kA ?g_kM ?g_kG ?g_kX ?g_ko; (case g_ex => (first | k_is | rfl | kernel_rfl | decide +kernel)); (case hg => k_is); (case hk => k_is); (case hs => k_is); (case hd => k_is); (case ha => k_is); (case hn => k_is); (case ht => k_is); (case hm => k_is); (case g_nT => (first | k_is | rfl | kernel_rfl | decide +kernel)); (case g_nA => (first | k_is | rfl | kernel_rfl | decide +kernel)); (case g_kv => (first | k_is | rfl | kernel_rfl | decide +kernel)); (case g_kT => (first | k_is | rfl | kernel_rfl | decide +kernel)); (case g_kI => (first | k_is | rfl | kernel_rfl | decide +kernel)); (case g_kA => (first | k_is | rfl | kernel_rfl | decide +kernel)); (case g_kM => (first | k_is | rfl | kernel_rfl | decide +kernel)); (case g_kG => (first | k_is | rfl | kernel_rfl | decide +kernel)); (case g_kX => (first | k_is | rfl | kernel_rfl | decide +kernel)); (case g_ko => (first | k_is | rfl | kernel_rfl | decide +kernel)))
    (case d_is_integer => refine' X.dx_mk KX G ?a ?l ?c ?k; (case a => k_is); (case l => k_is); (case c => k_is); (case k => k_is))
    (case d_is_listed => refine' X.dx_mk KX G ?a ?l ?c ?k; (case a => k_is); (case l => k_is); (case c => k_is); (case k => k_is))
    (case d_is_alphabet => refine' X.dx_mk KX G ?a ?l ?c ?k; (case a => k_is); (case l => k_is); (case c => k_is); (case k => k_is))
    (case d_check_alphabet => refine' X.dx_mk KX G ?a ?l ?c ?k; (case a => k_is); (case l => k_is); (case c => k_is); (case k => k_is))
    (case d_text_fault => refine' X.dx_mk KX G ?a ?l ?c ?k; (case a => k_is); (case l => k_is); (case c => k_is); (case k => k_is))
    (case d_check_text => refine' X.dx_mk KX G ?a ?l ?c ?k; (case a => k_is); (case l => k_is); (case c => k_is); (case k => k_is))
    (case d_checked_moves => refine' X.dx_mk KX G ?a ?l ?c ?k; (case a => k_is); (case l => k_is); (case c => k_is); (case k => k_is))
    (case d_checked_good => refine' X.dx_mk KX G ?a ?l ?c ?k; (case a => k_is); (case l => k_is); (case c => k_is); (case k => k_is))
    (case d_room_of => refine' X.dx_mk KX G ?a ?l ?c ?k; (case a => k_is); (case l => k_is); (case c => k_is); (case k => k_is))
    (case d_law_pick => refine' X.dx_mk KX G ?a ?l ?c ?k; (case a => k_is); (case l => k_is); (case c => k_is); (case k => k_is))
    (case d_law_source => refine' X.dx_mk KX G ?a ?l ?c ?k; (case a => k_is); (case l => k_is); (case c => k_is); (case k => k_is))
    (case d_law_alphabet => refine' X.dx_mk KX G ?a ?l ?c ?k; (case a => k_is); (case l => k_is); (case c => k_is); (case k => k_is))
    (case d_law_word => refine' X.dx_mk KX G ?a ?l ?c ?k; (case a => k_is); (case l => k_is); (case c => k_is); (case k => k_is))
    (case d_law_reader => refine' X.dx_mk KX G ?a ?l ?c ?k; (case a => k_is); (case l => k_is); (case c => k_is); (case k => k_is))
    (case d_law_room => refine' X.dx_mk KX G ?a ?l ?c ?k; (case a => k_is); (case l => k_is); (case c => k_is); (case k => k_is))
    (case d_law_is_number => refine' X.dx_mk KX G ?a ?l ?c ?k; (case a => k_is); (case l => k_is); (case c => k_is); (case k => k_is))
    (case d_law_is_reader => refine' X.dx_mk KX G ?a ?l ?c ?k; (case a => k_is); (case l => k_is); (case c => k_is); (case k => k_is))
    (case d_law_words => refine' X.dx_mk KX G ?a ?l ?c ?k; (case a => k_is); (case l => k_is); (case c => k_is); (case k => k_is))
    (case d_law_making => refine' X.dx_mk KX G ?a ?l ?c ?k; (case a => k_is); (case l => k_is); (case c => k_is); (case k => k_is))
    (case d_law_rooming => refine' X.dx_mk KX G ?a ?l ?c ?k; (case a => k_is); (case l => k_is); (case c => k_is); (case k => k_is))
    (case d_law_finding => refine' X.dx_mk KX G ?a ?l ?c ?k; (case a => k_is); (case l => k_is); (case c => k_is); (case k => k_is))
    (case d_law_filling => refine' X.dx_mk KX G ?a ?l ?c ?k; (case a => k_is); (case l => k_is); (case c => k_is); (case k => k_is))
    (case d_law_letters => refine' X.dx_mk KX G ?a ?l ?c ?k; (case a => k_is); (case l => k_is); (case c => k_is); (case k => k_is))
    (case d_law_sized => refine' X.dx_mk KX G ?a ?l ?c ?k; (case a => k_is); (case l => k_is); (case c => k_is); (case k => k_is))
    (case d_law_passed => refine' X.dx_mk KX G ?a ?l ?c ?k; (case a => k_is); (case l => k_is); (case c => k_is); (case k => k_is))
    (case d_law_spoilt => refine' X.dx_mk KX G ?a ?l ?c ?k; (case a => k_is); (case l => k_is); (case c => k_is); (case k => k_is))
    (case d_law_right => refine' X.dx_mk KX G ?a ?l ?c ?k; (case a => k_is); (case l => k_is); (case c => k_is); (case k => k_is))
    (case d_law_ends => refine' X.dx_mk KX G ?a ?l ?c ?k; (case a => k_is); (case l => k_is); (case c => k_is); (case k => k_is))
    (case d_law_equal => refine' X.dx_mk KX G ?a ?l ?c ?k; (case a => k_is); (case l => k_is); (case c => k_is); (case k => k_is))
    (case d_law_wrong_alphabet => refine' X.dx_mk KX G ?a ?l ?c ?k; (case a => k_is); (case l => k_is); (case c => k_is); (case k => k_is))
    (case d_law_wrong_moves => refine' X.dx_mk KX G ?a ?l ?c ?k; (case a => k_is); (case l => k_is); (case c => k_is); (case k => k_is))
    (case d_law_wrong_good => refine' X.dx_mk KX G ?a ?l ?c ?k; (case a => k_is); (case l => k_is); (case c => k_is); (case k => k_is))
    (case d_law_wrong_text => refine' X.dx_mk KX G ?a ?l ?c ?k; (case a => k_is); (case l => k_is); (case c => k_is); (case k => k_is))
    (case d_law_refused => refine' X.dx_mk KX G ?a ?l ?c ?k; (case a => k_is); (case l => k_is); (case c => k_is); (case k => k_is))
    (case mmak_Readerd_initd => refine' X.ix_mk ?mk ?a ?i ?kc ?l ?c; (case a => k_is); (case mk => k_is); (case i => k_is); (case kc => k_is); (case l => k_is); (case c => k_is))
    (case mmet_Reader_room => refine' X.tx_mk ?a ?i ?kp ?l ?c; (case a => k_is); (case i => k_is); (case kp => k_is); (case l => k_is); (case c => k_is))
    (case mown_Readerd_containsd => refine' X.mx_mk ?a ?i ?l ?c; (case a => k_is); (case i => k_is); (case l => k_is); (case c => k_is))
    (case mown_Readerd_lend => refine' X.mx_mk ?a ?i ?l ?c; (case a => k_is); (case i => k_is); (case l => k_is); (case c => k_is))
    (case mown_Readerd_eqd => refine' X.mx_mk ?a ?i ?l ?c; (case a => k_is); (case i => k_is); (case l => k_is); (case c => k_is))
    (case mst_Reader_full => refine' X.st_mk ?fc ?rc ?l ?c ?kp ?sp ?ty ?rd ?hd; (case fc => k_is); (case rc => k_is); (case l => k_is); (case c => k_is); (case kp => k_is); (case sp => k_is); (case ty => k_is); (case rd => k_is); (case hd => rfl))
    (case mst_Reader_bare => refine' X.st_mk ?fc ?rc ?l ?c ?kp ?sp ?ty ?rd ?hd; (case fc => k_is); (case rc => k_is); (case l => k_is); (case c => k_is); (case kp => k_is); (case sp => k_is); (case ty => k_is); (case rd => k_is); (case hd => rfl))
    (case xe_BadGood => refine' X.ex_mk X.ib_WrongItem KX G ?aC ?fi ?tI ?lk ?hcd ?lc ?hvs ?hfile ?htop ?lcc ?hsup ?ox ?rv ?sa ?exC ?tyC ?kC ?cD ?sb ?su ?sB ?nf ?op; (case aC => k_is); (case fi => k_is); (case tI => k_is); (case lk => k_is); (case hcd => k_is); (case lc => k_is); (case hvs => rfl); (case hfile => (first | k_is | rfl | kernel_rfl | decide +kernel)); (case htop => (first | k_is | rfl | kernel_rfl | decide +kernel)); (case lcc => k_is); (case hsup => k_is); (case ox => k_is); (case rv => (first | k_is | rfl | kernel_rfl | decide +kernel)); (case sa => k_is); (case exC => k_is); (case tyC => k_is); (case kC => k_is); (case cD => k_is); (case sb => k_is); (case su => (first | k_is | rfl | kernel_rfl | decide +kernel)); (case sB => k_is); (case nf => k_is); (case op => k_is))
    (case xe_BadMoves => refine' X.ex_mk X.ib_WrongItem KX G ?aC ?fi ?tI ?lk ?hcd ?lc ?hvs ?hfile ?htop ?lcc ?hsup ?ox ?rv ?sa ?exC ?tyC ?kC ?cD ?sb ?su ?sB ?nf ?op; (case aC => k_is); (case fi => k_is); (case tI => k_is); (case lk => k_is); (case hcd => k_is); (case lc => k_is); (case hvs => rfl); (case hfile => (first | k_is | rfl | kernel_rfl | decide +kernel)); (case htop => (first | k_is | rfl | kernel_rfl | decide +kernel)); (case lcc => k_is); (case hsup => k_is); (case ox => k_is); (case rv => (first | k_is | rfl | kernel_rfl | decide +kernel)); (case sa => k_is); (case exC => k_is); (case tyC => k_is); (case kC => k_is); (case cD => k_is); (case sb => k_is); (case su => (first | k_is | rfl | kernel_rfl | decide +kernel)); (case sB => k_is); (case nf => k_is); (case op => k_is))
    (case xe_BadAlphabet => refine' X.ex_mk X.ib_WrongThing KX G ?aC ?fi ?tI ?lk ?hcd ?lc ?hvs ?hfile ?htop ?lcc ?hsup ?ox ?rv ?sa ?exC ?tyC ?kC ?cD ?sb ?su ?sB ?nf ?op; (case aC => k_is); (case fi => k_is); (case tI => k_is); (case lk => k_is); (case hcd => k_is); (case lc => k_is); (case hvs => rfl); (case hfile => (first | k_is | rfl | kernel_rfl | decide +kernel)); (case htop => (first | k_is | rfl | kernel_rfl | decide +kernel)); (case lcc => k_is); (case hsup => k_is); (case ox => k_is); (case rv => (first | k_is | rfl | kernel_rfl | decide +kernel)); (case sa => k_is); (case exC => k_is); (case tyC => k_is); (case kC => k_is); (case cD => k_is); (case sb => k_is); (case su => (first | k_is | rfl | kernel_rfl | decide +kernel)); (case sB => k_is); (case nf => k_is); (case op => k_is))
    (case xe_BadText => refine' X.ex_mk X.ib_WrongItem KX G ?aC ?fi ?tI ?lk ?hcd ?lc ?hvs ?hfile ?htop ?lcc ?hsup ?ox ?rv ?sa ?exC ?tyC ?kC ?cD ?sb ?su ?sB ?nf ?op; (case aC => k_is); (case fi => k_is); (case tI => k_is); (case lk => k_is); (case hcd => k_is); (case lc => k_is); (case hvs => rfl); (case hfile => (first | k_is | rfl | kernel_rfl | decide +kernel)); (case htop => (first | k_is | rfl | kernel_rfl | decide +kernel)); (case lcc => k_is); (case hsup => k_is); (case ox => k_is); (case rv => (first | k_is | rfl | kernel_rfl | decide +kernel)); (case sa => k_is); (case exC => k_is); (case tyC => k_is); (case kC => k_is); (case cD => k_is); (case sb => k_is); (case su => (first | k_is | rfl | kernel_rfl | decide +kernel)); (case sB => k_is); (case nf => k_is); (case op => k_is))
    (case d_law => refine' X.lx_mk KX G hmg ?a ?l ?c; (case a => k_is); (case l => k_is); (case c => k_is))
#print axioms PySem.Challenge.cw_untoldlots_k07_reader_kept_holds
