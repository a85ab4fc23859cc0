import PyProof.Rows.All
import Wide.All
import OpenK.AllK
import Wide.FinOn
import HandS.ForMost
import HandS.IsInst
import HandS.Codes
import HandS.Wide
import HandS.WideBits
import HandS.Conv
import HandS.TupAny
import HandS.StrMore
import HandS.WordsExc
import KE.GoesEnum
import KE.KDictKeyed
import KE.KDictDisplayH
import HandS.OwnEq
import PyProof.InstEq
import HandS.Replace
import HandS.Steps
import HandS.Zip
import HandS.Deep
import HandS.More
import KE.KSuper
import KE.KExcSuper
import KE.KExcIs
import KE.KIsAll
import HandS.ExcInit
import HandS.ExcField
import HandS.ExcIs
import HandS.Nested
import HandS.RaiseMore
import HandS.FStr
import HandS.HotCalls
import HandS.SuiteRaise
import PySem.Challenge.RW_untoldlots_k11_whole_parted_least
import HandS.SetFor
import KE.DataMinMax
import HandS.DictComp
import HandS.Walk
import HandS.Style
import HandS.EndBits
set_option Elab.async false
set_option linter.all false
set_option maxRecDepth 100000
namespace U
open PySem PySem.Spec PyProof.Rows L2

section
variable {K : PySem.W.Frag} {D : Ends} {σ : L2.St} {H : Hp} {Q : VK} {QB : Bool → Hp → Prop} {QL : List V → Hp → Prop} {QS : L2.St → Hp → Prop} {QH : Hp → Prop}
theorem i_var {i : Nat} {v : V} (e : σ[i]? = some (some v)) (q : Q v H) : tVar i σ H Q := ⟨v, e, q⟩
theorem i_C {v : V} (q : Q v H) : tC v σ H Q := q
theorem i_seq {t u : TS} (q : t { D with nx := u D } σ H) : tSeq t u D σ H := q
theorem i_next (q : D.nx σ H) : tNext D σ H := q
theorem i_asg {te : TE} {g : TG} (q : te σ H fun x H1 => g x σ H1 D.nx) : tAsg te g D σ H := q
theorem i_name {i : Nat} {v : V} {σ' : L2.St} (e : σ.set i (some v) = σ') (q : QS σ' H) : gName i v σ H QS := by
  subst e
  exact q
theorem i_sub {to ti : TE} {t : TSet} {v : V} (q : to σ H fun o H1 => ti σ H1 fun i H2 => t o i v H2 fun H3 => QS σ H3) : gSub to ti t v σ H QS := q
theorem i_setL {p : Addr} {xs : List V} {k : Int} {j : Nat} {v : V} (h : H p = some (.lst xs)) (hj : ixN xs.length k = some j) (q : QH (upd H p (.lst (xs.set j v)))) : rSetL (.ref p) (.int k) v H QH := ⟨p, xs, k, j, rfl, rfl, h, hj, q⟩
theorem i_ret {te : TE} (q : te σ H D.rt) : tRet te D σ H := q
theorem i_retN (q : D.rt .non H) : tRetN D σ H := q
theorem i_drop {te : TE} (q : te σ H fun _ H1 => D.nx σ H1) : tDrop te D σ H := q
theorem i_ifS {c : TT} {t u : TS} (q : c σ H fun b H1 => if b = true then t D σ H1 else u D σ H1) : tIfS c t u D σ H := q
theorem i_test {t : TE} (q : t σ H fun x H' => ∃ k, x = .bl k ∧ QB k H') : tTest t σ H QB := q
theorem i_tB {t : TE} (q : t σ H fun x H' => ∃ k, x = .bl k ∧ QB k H') : tB t σ H QB := q
theorem i_op {r : R2} {ta tb : TE} (q : ta σ H fun x H1 => tb σ H1 fun y H2 => r x y H2 Q) : tOp r ta tb σ H Q := q
theorem i_un {r : V → Hp → VK → Prop} {ta : TE} (q : ta σ H fun x H1 => r x H1 Q) : tUn r ta σ H Q := q
theorem i_rI0 {g : Int → Int → V} {i j : Int} (q : Q (g i j) H) : rI0 g (.int i) (.int j) H Q := ⟨i, j, rfl, rfl, q⟩
theorem i_rI {C : Int → Int → Prop} {g : Int → Int → V} {i j : Int} (c : C i j) (q : Q (g i j) H) : rI C g (.int i) (.int j) H Q := ⟨i, j, rfl, rfl, c, q⟩
theorem i_rU {g : Int → V} {i : Int} (q : Q (g i) H) : rU g (.int i) H Q := ⟨i, rfl, q⟩
theorem i_eqI {i j : Int} (q : Q (.bl (decide (i = j))) H) : rEq (.int i) (.int j) H Q := by
  refine ⟨rfl, ?_⟩
  have e : decide (V.int i = V.int j) = decide (i = j) := by simp
  rw [e]
  exact q
theorem i_neI {i j : Int} (q : Q (.bl (!decide (i = j))) H) : rNe (.int i) (.int j) H Q := by
  refine ⟨rfl, ?_⟩
  have e : decide (V.int i = V.int j) = decide (i = j) := by simp
  rw [e]
  exact q
theorem i_eqS {i j : Str} (q : Q (.bl (decide (i = j))) H) : rEq (.str i) (.str j) H Q := by
  refine ⟨rfl, ?_⟩
  have e : decide (V.str i = V.str j) = decide (i = j) := by simp
  rw [e]
  exact q
theorem i_neS {i j : Str} (q : Q (.bl (!decide (i = j))) H) : rNe (.str i) (.str j) H Q := by
  refine ⟨rfl, ?_⟩
  have e : decide (V.str i = V.str j) = decide (i = j) := by simp
  rw [e]
  exact q
theorem i_eqB {i j : Bool} (q : Q (.bl (decide (i = j))) H) : rEq (.bl i) (.bl j) H Q := by
  refine ⟨rfl, ?_⟩
  have e : decide (V.bl i = V.bl j) = decide (i = j) := by simp
  rw [e]
  exact q
theorem i_neB {i j : Bool} (q : Q (.bl (!decide (i = j))) H) : rNe (.bl i) (.bl j) H Q := by
  refine ⟨rfl, ?_⟩
  have e : decide (V.bl i = V.bl j) = decide (i = j) := by simp
  rw [e]
  exact q
theorem ex_bl {b : Bool} {P : Bool → Prop} (h : P b) : ∃ k, V.bl b = .bl k ∧ P k := ⟨b, rfl, h⟩
theorem i_ixL {p : Addr} {xs : List V} {i : Int} {v : V} (h : H p = some (.lst xs)) (e : atI xs i = some v) (q : Q v H) : rIx K (.ref p) (.int i) H Q := .inl ⟨p, xs, i, v, rfl, rfl, SqL.of h, e, q⟩
theorem i_ixLs {p : Addr} {xs : List V} {i : Int} {v : V} (h : SqL K H p xs) (e : atI xs i = some v) (q : Q v H) : rIx K (.ref p) (.int i) H Q := .inl ⟨p, xs, i, v, rfl, rfl, h, e, q⟩
theorem i_ixT {p : Addr} {xs : List V} {i : Int} {v : V} (h : H p = some (.tup xs)) (e : atI xs i = some v) (q : Q v H) : rIx K (.ref p) (.int i) H Q := .inr (.inl ⟨p, xs, i, v, rfl, rfl, SqT.of h, e, q⟩)
theorem i_ixS {z : Str} {i : Int} {c : Nat} (h : z.length ≤ sizeLine) (e : atI z.cps.toList i = some c) (q : Q (.str ⟨#[c]⟩) H) : rIx K (.str z) (.int i) H Q := .inr (.inr ⟨z, i, c, rfl, rfl, h, e, q⟩)
theorem i_CB {r : List V → Hp → VK → Prop} {t : TA} (q : t σ H fun vs H1 => r vs H1 Q) : tCB r t σ H Q := q
theorem i_nil (q : QL [] H) : tNil σ H QL := q
theorem i_cons {ta : TE} {tr : TA} (q : ta σ H fun x H1 => tr σ H1 fun xs H2 => QL (x :: xs) H2) : tCons ta tr σ H QL := q
theorem i_call {sp : Sp} {E : XK} {t : TA} (q : t σ H fun vs H1 => sp vs H1 Q E) : tCall sp [] E t σ H Q := by
  refine cast ?_ q
  unfold tCall
  simp only [List.append_nil]
theorem i_and {t u : TT} (q : t σ H fun c H1 => if c = true then u σ H1 QB else QB false H1) : tAnd t u σ H QB := q
theorem i_or {t u : TT} (q : t σ H fun c H1 => if c = true then QB true H1 else u σ H1 QB) : tOr t u σ H QB := q
theorem i_not {t : TT} (q : t σ H fun c H1 => QB (!c) H1) : tNot t σ H QB := q
theorem i_andV {ta tb : TE} (q : ta σ H fun x H1 => ∃ c, x = .bl c ∧ if c = true then tb σ H1 Q else Q (.bl false) H1) : tAndV ta tb σ H Q := q
theorem i_orV {ta tb : TE} (q : ta σ H fun x H1 => ∃ c, x = .bl c ∧ if c = true then Q (.bl true) H1 else tb σ H1 Q) : tOrV ta tb σ H Q := q
theorem i_notV {ta : TE} (q : ta σ H fun x H1 => ∃ c, x = .bl c ∧ Q (.bl (!c)) H1) : tNotV ta σ H Q := q
theorem i_if {c : TT} {ta tb : TE} (q : c σ H fun b H1 => if b = true then ta σ H1 Q else tb σ H1 Q) : tIf c ta tb σ H Q := q
theorem i_tup {t : TA} (q : t σ H fun xs H1 => xs.length ≤ sizeLine ∧ ∀ p, H1 p = none → Q (.ref p) (upd H1 p (.tup xs))) : tTup t σ H Q := q
theorem i_lst {t : TA} (q : t σ H fun xs H1 => xs.length ≤ sizeLine ∧ ∀ p, H1 p = none → Q (.ref p) (upd H1 p (.lst xs))) : tLst t σ H Q := q
theorem ex_int1 {n : Int} {P : Int → Prop} {R : Prop} (h : P n) : (∃ i, [V.int n] = [.int i] ∧ P i) ∨ R := .inl ⟨n, rfl, h⟩
theorem ex_int {n : Int} {P : Int → Prop} (h : P n) : ∃ i, [V.int n] = [.int i] ∧ P i := ⟨n, rfl, h⟩
theorem i_len {x : V} {n : Nat} (e : LenV K x H n) (q : Q (.int n) H) : (fun xs H Q => ∃ x n, xs = [x] ∧ LenV K x H n ∧ Q (.int n) H : List V → Hp → VK → Prop) [x] H Q := ⟨x, n, rfl, e, q⟩
theorem i_fld {ta : TE} {f : Str} (q : ta σ H fun x H1 => ∃ a C dx fs v, x = .ref a ∧ H1 a = some (.ins C dx fs) ∧ Cls K C ∧ NoAttr K C f ∧ fs.lookup f = some v ∧ Q v H1) : tFld K ta f σ H Q := q
theorem i_bm {T : String} {r : V → List V → Hp → VK → Prop} {to : TE} {t : TA} (q : to σ H fun x H1 => tyV K T x H1 ∧ t σ H1 fun xs H2 => r x xs H2 Q) : tBM K T r to t σ H Q := q
theorem iteD {c : Prop} [Decidable c] {A B : Prop} (h1 : c → A) (h2 : ¬ c → B) : if decide c = true then A else B := by
  by_cases h : c
  · rw [decide_eq_true h, if_pos rfl]
    exact h1 h
  · rw [decide_eq_false h, if_neg Bool.false_ne_true]
    exact h2 h
theorem iteDN {c : Prop} [Decidable c] {A B : Prop} (h1 : ¬ c → A) (h2 : c → B) : if (!decide c) = true then A else B := by
  by_cases h : c
  · rw [decide_eq_true h, if_neg (by decide)]
    exact h2 h
  · rw [decide_eq_false h, if_pos (by decide)]
    exact h1 h
theorem iteB {b : Bool} {A B : Prop} (h1 : b = true → A) (h2 : b = false → B) : if b = true then A else B := by
  cases b with
  | true => rw [if_pos rfl]; exact h1 rfl
  | false => rw [if_neg Bool.false_ne_true]; exact h2 rfl
end
abbrev AS := Addr → Prop
/-- all but the objects of T stands -/
def Kp (T : AS) (H H' : Hp) : Prop := ∀ b o, ¬ T b → H b = some o → H' b = some o
/-- what is tracked -/
def Old (H : Hp) : AS := fun b => ∃ o, H b = some o
theorem Kp.refl {T : AS} {H : Hp} : Kp T H H := fun _ _ _ h => h
theorem Kp.trans {T : AS} {H H1 H2 : Hp} (a : Kp T H H1) (b : Kp T H1 H2) : Kp T H H2 := fun c o n h => b c o n (a c o n h)
theorem Kp.mono {T T' : AS} {H H' : Hp} (k : Kp T H H') (h : ∀ a, T a → T' a) : Kp T' H H' := fun b o n e => k b o (fun z => n (h b z)) e
theorem Kp.of_same {T : AS} {H H' : Hp} (s : Same H H') : Kp T H H' := fun b o _ e => s b o e
theorem Kp.same {H H' : Hp} (k : Kp (fun _ => False) H H') : Same H H' := fun b o e => k b o (fun z => z) e
theorem Kp.laid {T : AS} {H : Hp} {p : Addr} {o : HO} (h : H p = none) : Kp T H (upd H p o) := fun b u _ e => by
  rw [upd_ne (ne_of_none e h)]
  exact e
theorem Kp.wrote {T : AS} {H : Hp} {p : Addr} {o : HO} (h : T p) : Kp T H (upd H p o) := fun b u n e => by
  rw [upd_ne (fun z => n (by rw [z]; exact h))]
  exact e
theorem same_laid {H : Hp} {p : Addr} {o : HO} (h : H p = none) : Same H (upd H p o) := fun b u e => by
  rw [upd_ne (ne_of_none e h)]
  exact e
theorem Old.none {H : Hp} {p : Addr} (h : H p = none) : ¬ Old H p := fun ⟨o, e⟩ => by
  rw [h] at e
  cases e
/-- a source of draws -/
def Src (H : Hp) (a : Addr) : Prop := ∃ x y z : Int, H a = some (.lst [.int x, .int y, .int z])
def Srcs (S : AS) (H : Hp) : Prop := ∀ a, S a → Src H a
/-- from H to H': the sources stand, all else that stood stands -/
structure Ev (S : AS) (H H' : Hp) : Prop where
  kp : Kp S H H'
  src : Srcs S H'
theorem Srcs.old {S : AS} {H : Hp} (s : Srcs S H) {a : Addr} (h : S a) : Old H a := let ⟨_, _, _, e⟩ := s a h; ⟨_, e⟩
theorem Srcs.notin {S : AS} {H : Hp} (s : Srcs S H) {p : Addr} (h : H p = none) : ¬ S p := fun z => Old.none h (s.old z)
theorem Srcs.nottup {S : AS} {H : Hp} (s : Srcs S H) {p : Addr} {xs : List V} (h : H p = some (.tup xs)) : ¬ S p := fun z => by
  obtain ⟨x, y, w, e⟩ := s p z
  rw [h] at e
  cases e
theorem Srcs.notins {S : AS} {H : Hp} (s : Srcs S H) {p C dx : Addr} {fs : List (Str × V)} (h : H p = some (.ins C dx fs)) : ¬ S p := fun z => by
  obtain ⟨x, y, w, e⟩ := s p z
  rw [h] at e
  cases e
theorem Ev.free {S : AS} {H H' : Hp} (e : Ev S H H') {p : Addr} (h : H' p = none) : H p = none := by
  cases q : H p with
  | none => rfl
  | some o =>
    have z := e.kp p o (e.src.notin h) q
    rw [h] at z
    cases z
theorem Ev.refl {S : AS} {H : Hp} (s : Srcs S H) : Ev S H H := ⟨.refl, s⟩
theorem Ev.trans {S : AS} {H H1 H2 : Hp} (a : Ev S H H1) (b : Ev S H1 H2) : Ev S H H2 := ⟨a.kp.trans b.kp, b.src⟩
theorem Srcs.kp {S : AS} {H H' : Hp} (s : Srcs S H) (k : Same H H') : Srcs S H' := fun a ha => by
  obtain ⟨x, y, z, e⟩ := s a ha
  exact ⟨x, y, z, k _ _ e⟩
theorem Ev.of_same {S : AS} {H H' : Hp} (s : Srcs S H) (k : Same H H') : Ev S H H' := ⟨.of_same k, s.kp k⟩
theorem Ev.laid {S : AS} {H : Hp} {p : Addr} {o : HO} (s : Srcs S H) (h : H p = none) : Ev S H (upd H p o) := .of_same s (same_laid h)
theorem Ev.wrote {S : AS} {H : Hp} {p : Addr} {x y z : Int} (s : Srcs S H) (h : S p) : Ev S H (upd H p (.lst [.int x, .int y, .int z])) := ⟨.wrote h, fun a ha => by
  by_cases e : a = p
  · exact ⟨x, y, z, by rw [e]; exact upd_same⟩
  · obtain ⟨x', y', z', q⟩ := s a ha
    exact ⟨x', y', z', by rw [upd_ne e]; exact q⟩⟩
theorem Ev.old {S : AS} {H H' : Hp} (e : Ev S H H') (s : Srcs S H) {a : Addr} (h : Old H a) : Old H' a := by
  obtain ⟨o, q⟩ := h
  by_cases z : S a
  · exact e.src.old z
  · exact ⟨o, e.kp a o z q⟩
end U
namespace U
open PySem PySem.Spec PyProof.Rows L2
section
variable {X : Cx} {tg : Expr}
def iSeq (K : PySem.W.Frag) (tl : TE) : TI := fun σ H R => tl σ H fun x H1 => ∃ a, x = .ref a ∧ (((∃ xs, SqL K H1 a xs) ∧ R (Itl K a) H1) ∨ ((∃ xs, SqT K H1 a xs) ∧ R (Itt K a) H1))
theorem pi_seq {l : Expr} {tl : TE} (hl : PE X l tl) : PI X tg l (iSeq X.K tl) := by
  refine ⟨fun pins s σ H R I h => ?_⟩
  refine thn (hl.run pins s σ H _ I h) fun v s1 ⟨x, H1, I1, r1, q1⟩ => ?_
  obtain ⟨a, e, q1⟩ := q1
  subst e
  cases r1
  rcases q1 with ⟨⟨xs, hq⟩, q⟩ | ⟨⟨xs, hq⟩, q⟩
  · obtain ⟨its, rv, p, hz⟩ := I1.list hq
    refine wpAny_pyIter_list p.isList ?_
    refine ⟨s1.heap.objs.size, [s1.heap.objs.size], _, _, H1, rfl, I1.kept (t' := s1.toks) fun b o e => Heap.get?_push_of_some _ e, turn_list a _, ⟨_, Heap.get?_push_size _ rfl, rfl, rfl⟩, fun b hb => ?_, q⟩
    have e : b = s1.heap.objs.size := by simpa using hb
    subst e
    exact I1.fpOk (Nat.le_refl _) (I1.hok.fresh (Nat.le_refl _))
  · obtain ⟨its, rv, p, hz⟩ := I1.tuple hq
    refine wpAny_pyIter_tuple (show s1.heap.IsTuple a its.toArray from p) ?_
    refine ⟨s1.heap.objs.size, [s1.heap.objs.size], _, _, H1, rfl, I1.kept (t' := s1.toks) fun b o e => Heap.get?_push_of_some _ e, turn_tuple a _, ⟨_, Heap.get?_push_size _ rfl, rfl, rfl⟩, fun b hb => ?_, q⟩
    have e : b = s1.heap.objs.size := by simpa using hb
    subst e
    exact I1.fpOk (Nat.le_refl _) (I1.hok.fresh (Nat.le_refl _))
/-- enumerate(tuple) -/
def IteT (K : PySem.W.Frag) (a : Addr) : It :=
  ⟨fun i H => ∃ (xs : List V) (x : V), SqT K H a xs ∧ xs[i]? = some x, fun i H v H' => ∃ T x, v = .ref T ∧ H T = none ∧ H' = upd H T (.tup [.int (i : Nat), x]) ∧ ∀ xs, SqT K H a xs → xs[i]? = some x, fun i H => ∃ xs : List V, SqT K H a xs ∧ xs.length = i⟩
theorem turn_enumT {P : Program} {w : World} {K : PySem.W.Frag} {elts : List Expr} {kk : Nat} {tpos : Pos} (a e it : Addr) :
    Turn P w K (.Tuple elts kk tpos) (IteT K a) [e, it] e (fun i h => (∃ old, IsEnum h e it ((i : Nat) : Int) old) ∧ h.IsTupleIter it a i ∧ e ≠ it) where
  mem := by simp
  obj := fun i h st b hb => by
    obtain ⟨⟨old, he⟩, ⟨o, ho, hc, hd⟩, _⟩ := st
    have e' : b = e ∨ b = it := by simpa using hb
    rcases e' with z | z
    · rw [z]; exact ⟨_, he, fun v q => nomatch q⟩
    · rw [z]; exact ⟨o, ho, fun v q => by rw [hd] at q; cases q⟩
  keep := fun i h h' st k => let ⟨⟨old, he⟩, hi, hne⟩ := st; ⟨⟨old, k e (by simp) _ he⟩, hi.at fun o q => k it (by simp) o q, hne⟩
  item := by
    intro X hP hw hK hc i pins s σ H E I hf st hg
    subst hP hw hK
    obtain ⟨⟨old, he⟩, hit, hne⟩ := st
    obtain ⟨xs, x, hq, hx⟩ := hg
    obtain ⟨its, rv, p, hz⟩ := I.tuple hq
    obtain ⟨u, hu, ru⟩ := rv.get hx
    have hel : e < s.heap.objs.size := Heap.lt_size he
    have hil : it < s.heap.objs.size := by obtain ⟨_, q, _⟩ := hit; exact Heap.lt_size q
    have hli : i < its.toArray.size := by
      have := (List.getElem?_eq_some_iff.mp hu).1
      simpa using this
    have nea : a ≠ it := fun z => by
      obtain ⟨o, h1, h2, h3⟩ := hit
      obtain ⟨o', g1, g2, _⟩ := p
      rw [z] at g1
      rw [h1] at g1
      cases g1
      rw [g2] at h2
      exact absurd h2 (by decide)
    have nee : e ≠ a := fun z => by
      obtain ⟨o', g1, g2, _⟩ := p
      rw [← z] at g1
      have he' : s.heap.get? e = some _ := he
      rw [he'] at g1
      cases g1
      have g3 : (Value.type "enumerate" : Value) = .type "tuple" := g2
      exact absurd g3 (by decide)
    refine wpAny_pyNext_enum_itemC (Draws.tuple (prog := X.prog) (w := X.w) (A := X.A.in1) (I.ok.hd hc) it a nea its.toArray) he ⟨hit, p⟩ hli hne (by simp only [List.mem_cons, List.not_mem_nil, or_false, not_or]; exact ⟨hne, nee⟩) fun y h' tk hP ho hit' hT hsz hk => ?_
    have ey : y = u := by
      have h2 : its.toArray[i]? = some y := hP
      rw [List.getElem?_toArray] at h2
      rw [hu] at h2
      exact (Option.some.inj h2).symm
    subst ey
    refine ⟨_, rfl, wpAny_letOwnedTupleGo_enum (s := { s with heap := h', toks := tk + 1 }) ho fun h'' he' sb => ?_⟩
    have hT2 : h''.get? s.heap.objs.size = some { cls := .type "tuple", data := .seq #[.int i tk, y] } := (sb.2 _ (Nat.ne_of_gt hel)).trans hT
    have new : ObjOk X.prog X.w (upd H s.heap.objs.size (.tup [.int (i : Nat), x])) h'' s.heap.objs.size (.tup [.int (i : Nat), x]) :=
      ⟨by show 2 ≤ sizeLine; decide, [.int i tk, y], .cons ⟨_, rfl⟩ (.cons ru .nil), ⟨_, hT2, rfl, _, rfl⟩⟩
    have I1 : Inv X pins σ (upd H s.heap.objs.size (.tup [.int (i : Nat), x])) { s with heap := h'', toks := tk + 1 } :=
      I.turnedNew (ch := [e, it]) (fun b ob hb q => (sb.2 b (fun z => hb (by simp [z]))).trans (hk b ob (fun z => hb (by simp [z])) (fun z => hb (by simp [z])) q)) hf (Nat.le_refl _) new
    refine ⟨.ref s.heap.objs.size, _, I1, rfl, ⟨_, x, rfl, I.hok.fresh (Nat.le_refl _), rfl, fun ys hy => by rw [I.tuple_inj hy hq]; exact hx⟩, ⟨⟨y, ?_⟩, hit'.1.at fun o q => (sb.2 it (Ne.symm hne)).trans q, hne⟩, fun b hb => ?_⟩
    · have e1 : ((i + 1 : Nat) : Int) = (i : Int) + 1 := by omega
      rw [e1]; exact he'
    · have hb' : b < s.heap.objs.size := by
        have e' : b = e ∨ b = it := by simpa using hb
        rcases e' with z | z
        · rw [z]; exact hel
        · rw [z]; exact hil
      rw [upd_ne (Nat.ne_of_lt hb')]
      exact (hf b hb).1
  done := by
    intro X hP hw hK hc i pins s σ H E I hf st hg
    subst hP hw hK
    obtain ⟨⟨old, he⟩, hit, hne⟩ := st
    obtain ⟨xs, hq, hx⟩ := hg
    obtain ⟨its, rv, p, hz⟩ := I.tuple hq
    obtain ⟨f0, f1, f2, f3, f4, f5⟩ := hf it (by simp)
    have hl := rv.length
    have nea : a ≠ it := fun z => by
      obtain ⟨o, h1, h2, h3⟩ := hit
      obtain ⟨o', g1, g2, _⟩ := p
      rw [z] at g1
      rw [h1] at g1
      cases g1
      rw [g2] at h2
      exact absurd h2 (by decide)
    have hsz : its.toArray.size = i := by
      rw [List.size_toArray, ← hl, hx]
    have DD := Draws.tuple (prog := X.prog) (w := X.w) (A := X.A.in1) (I.ok.hd hc) it a nea its.toArray
    rw [hsz] at DD
    exact wpAny_pyNext_enum_endD (n := i) DD he ⟨hit, p⟩ fun h' eb => ⟨rfl, I.turned (t' := s.toks) (fun b o hb q => eb b o hb q) f0 f1 f3 f4 f5⟩
  self := fun A i s Q E st h => let ⟨⟨_, he⟩, _⟩ := st; wpAny_pyIter_enum he h
theorem call_enumerate_tuple {prog : Program} {w : World} {A : Around} {E : Value → Shared → Prop} {s : Shared} {l : Addr} {items : Array Value} {Q : Value → Shared → Prop} (hL : s.heap.IsTuple l items)
    (h : ∀ h', IsEnum h' (s.heap.objs.size + 1) s.heap.objs.size 0 .none → h'.IsTupleIter s.heap.objs.size l 0 → h'.objs.size = s.heap.objs.size + 2 →
      (∀ b o, s.heap.get? b = some o → h'.get? b = some o) → Q (.ref (s.heap.objs.size + 1)) { s with heap := h' }) :
    wpAny (model prog w) A (call (.type "enumerate") [.ref l]) Q E s := by
  have M : Meets (Builtin.«enumerate.__new__» ⟨[.type "enumerate", .ref l], []⟩) (fun _ R s => s.heap.IsTuple l items ∧
      R (.ok (.ret (.ref (s.heap.push { cls := .type "tuple_iterator", data := .fields #[.ref l, .int 0 0] }).objs.size)))
        { s with heap := (s.heap.push { cls := .type "tuple_iterator", data := .fields #[.ref l, .int 0 0] }).push { cls := .type "enumerate", data := .fields #[.none, .bool false, .ref s.heap.objs.size, rawInt 0, .none, .none] } }) :=
    .of_wp fun prog w A R s h => by
      obtain ⟨hp, g, d, tk, os⟩ := s; obtain ⟨hl, h⟩ := h
      have hsub := sub_enumerate
      have hL : Heap.IsTuple (Shared.heap ⟨hp, g, d, tk, os⟩) l items := hl
      wp_walk using wpAny_pyIter_tuple hL
      refine wpAny_stack_any fun st => wpAny_pure ?_
      split
      · rename_i c _ _ _ _ _
        cases (c == Value.type "enumerate")
        · wp_walk using wpAny_pyIter_tuple hL
          exact ⟨_, rfl, h⟩
        · wp_walk using wpAny_pyIter_tuple hL
          exact ⟨_, rfl, h⟩
      · wp_walk using wpAny_pyIter_tuple hL
        exact ⟨_, rfl, h⟩
  refine callType_new F.called_enumerate (by decide) (F.typeCall_enumerate_1 _) (F.newCall_enumerate_1 _) (fun obj => F.args_object_init_2 obj _) F.entry_enumerate_new
    M ⟨hL, ?_⟩
  have hz : (s.heap.push { cls := .type "tuple_iterator", data := .fields #[.ref l, .int 0 0] }).objs.size = s.heap.objs.size + 1 := Heap.size_push ..
  show _ ∧ _
  rw [hz]
  have he : IsEnum ((s.heap.push { cls := .type "tuple_iterator", data := .fields #[.ref l, .int 0 0] }).push
      { cls := .type "enumerate", data := .fields #[.none, .bool false, .ref s.heap.objs.size, rawInt 0, .none, .none] }) (s.heap.objs.size + 1) s.heap.objs.size 0 .none := by
    have := Heap.get?_push_size (s.heap.push { cls := .type "tuple_iterator", data := .fields #[.ref l, .int 0 0] })
      (o := { cls := .type "enumerate", data := .fields #[.none, .bool false, .ref s.heap.objs.size, rawInt 0, .none, .none] }) rfl
    rw [hz] at this; exact this
  refine ⟨⟨_, he, rfl⟩, h _ he ⟨_, Heap.get?_push_of_some _ (Heap.get?_push_size _ rfl), rfl, rfl⟩ (by rw [Heap.size_push, hz]) fun b o x => Heap.get?_push_of_some _ (Heap.get?_push_of_some _ x)⟩
/-- enumerate(list or tuple) -/
def iEnumR (K : PySem.W.Frag) (ta : TA) : TI := fun σ H R => ta σ H fun vs H1 => ∃ a, vs = [.ref a] ∧ (((∃ xs, SqL K H1 a xs) ∧ R (Ite K a) H1) ∨ ((∃ xs, SqT K H1 a xs) ∧ R (IteT K a) H1))
theorem pi_enumR {e : Expr} {ta : TA} {p pos tpos : Pos} {elts : List Expr} {kk : Nat} (hg : Gl X "enumerate") (hm : X.mg "enumerate" = none) (ha : PA X [e] ta) (hs : starEach [e] X.env = [(false, eval e X.env)] := by rfl) :
    PI X (.Tuple elts kk tpos) (.Call (.Name "enumerate" p) [e] [] pos) (iEnumR X.K ta) := by
  refine ⟨fun pins s σ H R I h => ?_⟩
  refine Call_ (ld_blt I hg hm boot_enumerate (PyProof.Rows.callWith_type1 (thn (ha.run pos pins s σ H _ I h) fun us s1 ⟨vs, H1, I1, r1, q1⟩ => ?_) hs rfl))
  obtain ⟨a, ex, q1⟩ := q1
  subst ex
  have new : ∀ b ∈ [s1.heap.objs.size + 1, s1.heap.objs.size], FpOk X pins H1 b := fun b hb => by
    have e' : b = s1.heap.objs.size + 1 ∨ b = s1.heap.objs.size := by simpa using hb
    have hle : s1.heap.objs.size ≤ b := by
      rcases e' with z | z
      · rw [z]; exact Nat.le_add_right _ _
      · rw [z]; exact Nat.le_refl _
    exact I1.fpOk hle (I1.hok.fresh hle)
  cases r1 with
  | cons r rr =>
    cases rr
    cases r
    rcases q1 with ⟨⟨xs, hq⟩, q⟩ | ⟨⟨xs, hq⟩, q⟩
    · obtain ⟨its, rv, p', hz⟩ := I1.list hq
      refine call_enumerate_list p'.isList fun h' he hit hsz hk => wpAny_pyIter_enum he ?_
      have I2 : Inv X pins σ H1 { s1 with heap := h' } := I1.kept (t' := s1.toks) hk
      exact ⟨s1.heap.objs.size + 1, [s1.heap.objs.size + 1, s1.heap.objs.size], _, _, H1, rfl, I2, turn_enum a (s1.heap.objs.size + 1) s1.heap.objs.size, ⟨⟨.none, he⟩, hit, Nat.succ_ne_self _⟩, new, q⟩
    · obtain ⟨its, rv, p', hz⟩ := I1.tuple hq
      refine call_enumerate_tuple (items := its.toArray) p' fun h' he hit hsz hk => wpAny_pyIter_enum he ?_
      have I2 : Inv X pins σ H1 { s1 with heap := h' } := I1.kept (t' := s1.toks) hk
      exact ⟨s1.heap.objs.size + 1, [s1.heap.objs.size + 1, s1.heap.objs.size], _, _, H1, rfl, I2, turn_enumT a (s1.heap.objs.size + 1) s1.heap.objs.size, ⟨⟨.none, he⟩, hit, Nat.succ_ne_self _⟩, new, q⟩
/-- enumerate(text) -/
def IteS (z : Str) : It :=
  ⟨fun i H => i < z.cps.size, fun i H v H' => ∃ T c, v = .ref T ∧ H T = none ∧ H' = upd H T (.tup [.int (i : Nat), .str ⟨#[c]⟩]) ∧ z.cps[i]? = some c, fun i H => i = z.cps.size⟩
theorem turn_enumS {P : Program} {w : World} {K : PySem.W.Frag} {elts : List Expr} {kk : Nat} {tpos : Pos} (z : Str) (t : Tok) (e it : Addr) :
    Turn P w K (.Tuple elts kk tpos) (IteS z) [e, it] e (fun i h => (∃ old, IsEnum h e it ((i : Nat) : Int) old) ∧ h.IsStrIter it (strIterType z) z t i ∧ e ≠ it) where
  mem := by simp
  obj := fun i h st b hb => by
    obtain ⟨⟨old, he⟩, hit, _⟩ := st
    have e' : b = e ∨ b = it := by simpa using hb
    rcases e' with z | z
    · rw [z]; exact ⟨_, he, fun v q => nomatch q⟩
    · rw [z]
      obtain ⟨o, ho, hc, hd⟩ := hit
      exact ⟨o, ho, fun v q => by rw [hd] at q; cases q⟩
  keep := fun i h h' st k => let ⟨⟨old, he⟩, ⟨o, h1, h2, h3⟩, hne⟩ := st; ⟨⟨old, k e (by simp) _ he⟩, ⟨o, k it (by simp) o h1, h2, h3⟩, hne⟩
  item := by
    intro X hP hw hK hc i pins s σ H E I hf st hg
    subst hP hw hK
    obtain ⟨⟨old, he⟩, hit, hne⟩ := st
    have hel : e < s.heap.objs.size := Heap.lt_size he
    have hil : it < s.heap.objs.size := by obtain ⟨_, q, _⟩ := hit; exact Heap.lt_size q
    refine wpAny_pyNext_enum_itemC (Draws.text (prog := X.prog) (w := X.w) (A := X.A.in1) (I.ok.hd hc) it z t) he hit hg hne (by simpa using hne) fun y h' tk hP ho hit' hT hsz hk => ?_
    obtain ⟨c, u, hcu, rfl⟩ := hP
    refine ⟨_, rfl, wpAny_letOwnedTupleGo_enum (s := { s with heap := h', toks := tk + 1 }) ho fun h'' he' sb => ?_⟩
    have hT2 : h''.get? s.heap.objs.size = some { cls := .type "tuple", data := .seq #[.int i tk, .str ⟨#[c]⟩ u] } := (sb.2 _ (Nat.ne_of_gt hel)).trans hT
    have new : ObjOk X.prog X.w (upd H s.heap.objs.size (.tup [.int (i : Nat), .str ⟨#[c]⟩])) h'' s.heap.objs.size (.tup [.int (i : Nat), .str ⟨#[c]⟩]) :=
      ⟨by show 2 ≤ sizeLine; decide, [.int i tk, .str ⟨#[c]⟩ u], .cons ⟨_, rfl⟩ (.cons ⟨_, rfl⟩ .nil), ⟨_, hT2, rfl, _, rfl⟩⟩
    have I1 : Inv X pins σ (upd H s.heap.objs.size (.tup [.int (i : Nat), .str ⟨#[c]⟩])) { s with heap := h'', toks := tk + 1 } :=
      I.turnedNew (ch := [e, it]) (fun b ob hb q => (sb.2 b (fun z => hb (by simp [z]))).trans (hk b ob (fun z => hb (by simp [z])) (fun z => hb (by simp [z])) q)) hf (Nat.le_refl _) new
    refine ⟨.ref s.heap.objs.size, _, I1, rfl, ⟨_, c, rfl, I.hok.fresh (Nat.le_refl _), rfl, hcu⟩, ⟨⟨.str ⟨#[c]⟩ u, ?_⟩, ?_, hne⟩, fun b hb => ?_⟩
    · have e1 : ((i + 1 : Nat) : Int) = (i : Int) + 1 := by omega
      rw [e1]; exact he'
    · obtain ⟨o, h1, h2, h3⟩ := hit'
      exact ⟨o, (sb.2 it (Ne.symm hne)).trans h1, h2, h3⟩
    · have hb' : b < s.heap.objs.size := by
        have e' : b = e ∨ b = it := by simpa using hb
        rcases e' with z | z
        · rw [z]; exact hel
        · rw [z]; exact hil
      rw [upd_ne (Nat.ne_of_lt hb')]
      exact (hf b hb).1
  done := by
    intro X hP hw hK hc i pins s σ H E I hf st hg
    subst hP hw hK
    obtain ⟨⟨old, he⟩, hit, hne⟩ := st
    obtain ⟨f0, f1, f2, f3, f4, f5⟩ := hf it (by simp)
    have hg' : i = z.cps.size := hg
    subst hg'
    exact wpAny_pyNext_enum_endD (Draws.text (prog := X.prog) (w := X.w) (A := X.A.in1) (I.ok.hd hc) it z t) he hit fun h' eb => ⟨rfl, I.turned (t' := s.toks) (fun b o hb q => eb b o hb q) f0 f1 f3 f4 f5⟩
  self := fun A i s Q E st h => let ⟨⟨_, he⟩, _⟩ := st; wpAny_pyIter_enum he h
def iEnumS (ta : TA) : TI := fun σ H R => ta σ H fun vs H1 => ∃ z, vs = [.str z] ∧ R (IteS z) H1
theorem pi_enumS {e : Expr} {ta : TA} {p pos tpos : Pos} {elts : List Expr} {kk : Nat} (hg : Gl X "enumerate") (hm : X.mg "enumerate" = none) (ha : PA X [e] ta) (hs : starEach [e] X.env = [(false, eval e X.env)] := by rfl) :
    PI X (.Tuple elts kk tpos) (.Call (.Name "enumerate" p) [e] [] pos) (iEnumS ta) := by
  refine ⟨fun pins s σ H R I h => ?_⟩
  refine Call_ (ld_blt I hg hm boot_enumerate (PyProof.Rows.callWith_type1 (thn (ha.run pos pins s σ H _ I h) fun us s1 ⟨vs, H1, I1, r1, q1⟩ => ?_) hs rfl))
  obtain ⟨z, ex, q⟩ := q1
  subst ex
  have new : ∀ b ∈ [s1.heap.objs.size + 1, s1.heap.objs.size], FpOk X pins H1 b := fun b hb => by
    have e' : b = s1.heap.objs.size + 1 ∨ b = s1.heap.objs.size := by simpa using hb
    have hle : s1.heap.objs.size ≤ b := by
      rcases e' with z | z
      · rw [z]; exact Nat.le_add_right _ _
      · rw [z]; exact Nat.le_refl _
    exact I1.fpOk hle (I1.hok.fresh hle)
  cases r1 with
  | cons r rr =>
    cases rr
    obtain ⟨t, rfl⟩ := r
    refine call_enumerate_str fun h' he hit hsz hk => wpAny_pyIter_enum he ?_
    have I2 : Inv X pins σ H1 { s1 with heap := h' } := I1.kept (t' := s1.toks) hk
    exact ⟨s1.heap.objs.size + 1, [s1.heap.objs.size + 1, s1.heap.objs.size], _, _, H1, rfl, I2, turn_enumS z t (s1.heap.objs.size + 1) s1.heap.objs.size, ⟨⟨.none, he⟩, hit, Nat.succ_ne_self _⟩, new, q⟩
end
end U
namespace U
open PySem PySem.Spec PyProof.Rows L2

mutual
/-- the value v is the key k -/
inductive NK (H : Hp) : NestedKey → V → Prop where
  | non : NK H .none .non
  | bl (b : Bool) : NK H (.num (if b = true then 1 else 0)) (.bl b)
  | int (i : Int) : NK H (.num i) (.int i)
  | str (x : Str) : NK H (.text x) (.str x)
  | nil {a : Addr} (h : H a = some (.tup [])) : NK H (.tup []) (.ref a)
  | cons {a : Addr} {k : NestedKey} {ks : List NestedKey} {v : V} {vs : List V} (h : H a = some (.tup (v :: vs))) (hk : NK H k v) (hks : NKs' H ks vs) : NK H (.tup (k :: ks)) (.ref a)
inductive NKs' (H : Hp) : List NestedKey → List V → Prop where
  | nil : NKs' H [] []
  | cons {k : NestedKey} {ks : List NestedKey} {v : V} {vs : List V} (hk : NK H k v) (hks : NKs' H ks vs) : NKs' H (k :: ks) (v :: vs)
end
/-- tuples stay -/
def TKp (H H' : Hp) : Prop := ∀ b vs, H b = some (.tup vs) → H' b = some (.tup vs)
theorem NK.tup {H : Hp} {a : Addr} {ks : List NestedKey} {vs : List V} (h : H a = some (.tup vs)) (hk : NKs' H ks vs) : NK H (.tup ks) (.ref a) := by
  cases hk with
  | nil => exact .nil h
  | cons a b => exact .cons h a b
mutual
theorem NK.kp {H H' : Hp} (t : TKp H H') : ∀ {k : NestedKey} {v : V}, NK H k v → NK H' k v
  | _, _, .non => .non
  | _, _, .bl b => .bl b
  | _, _, .int i => .int i
  | _, _, .str x => .str x
  | _, _, .nil h => .nil (t _ _ h)
  | _, _, .cons h a b => .cons (t _ _ h) (NK.kp t a) (NKs'.kp t b)
theorem NKs'.kp {H H' : Hp} (t : TKp H H') : ∀ {ks : List NestedKey} {vs : List V}, NKs' H ks vs → NKs' H' ks vs
  | _, _, .nil => .nil
  | _, _, .cons a b => .cons (NK.kp t a) (NKs'.kp t b)
end
section
variable {X : Cx} {pins : List (Addr × Obj)} {σ : L2.St} {H : Hp} {s : Shared}
mutual
theorem NK.is (I : Inv X pins σ H s) : ∀ {k : NestedKey} {v : V} {u : Value}, NK H k v → RelV v u → NestedIs s.heap k u
  | _, _, u, .non, r => by
    obtain rfl : u = Value.none := r
    exact .none
  | _, _, u, .bl b, r => by
    obtain rfl : u = Value.bool b := r
    exact .bool rfl
  | _, _, u, .int i, r => by
    obtain ⟨t, rfl⟩ := r
    exact .int i t
  | _, _, u, .str x, r => by
    obtain ⟨t, rfl⟩ := r
    exact .text x t
  | _, _, u, .nil (a := a) h, r => by
    obtain rfl : u = Value.ref a := r
    obtain ⟨_, its, rv, o, h1, h2, n, h3⟩ := (show ObjOk X.prog X.w H s.heap a (.tup []) from I.hok a _ h)
    cases rv
    exact .tup h1 h2 h3 .nil
  | _, _, u, .cons (a := a) (v := v) (vs := vs) h hk hks, r => by
    obtain rfl : u = Value.ref a := r
    obtain ⟨_, its, rv, o, h1, h2, n, h3⟩ := (show ObjOk X.prog X.w H s.heap a (.tup (v :: vs)) from I.hok a _ h)
    cases rv with
    | cons r1 r2 => exact .tup h1 h2 h3 (.cons (NK.is I hk r1) (NKs'.is I hks r2))
theorem NKs'.is (I : Inv X pins σ H s) : ∀ {ks : List NestedKey} {vs : List V} {us : List Value}, NKs' H ks vs → Vals vs us → NestedAll s.heap ks us
  | _, _, _, .nil, .nil => .nil
  | _, _, _, .cons a b, .cons r1 r2 => .cons (NK.is I a r1) (NKs'.is I b r2)
end
end

def NEnts (P : Program) (w : World) (d : Addr) (xs : List (NestedKey × Addr × Value)) : Heap → Prop := fun h =>
  ∃ o es ep, h.get? d = some o ∧ o.ExactDict ∧ o.data = .dict es ep ∧ es.toList = xs.map (entryOfKey (nestedKind P w)) ∧ (xs.map (·.1)).Nodup
def PairN (kvs : List (NestedKey × V)) (xs : List (NestedKey × Addr × Value)) : Prop := Paired (fun (p : NestedKey × V) (q : NestedKey × Addr × Value) => p.1 = q.1 ∧ RelV p.2 q.2.2) kvs xs
structure NDict (P : Program) (w : World) (H : Hp) (d : Addr) (kvs : List (NestedKey × V)) : Prop where
  ex : ∃ xs, H d = some (.ext (NEnts P w d xs)) ∧ (∀ x ∈ xs, NK H x.1 (.ref x.2.1) ∧ x.1.depth ≤ 8) ∧ PairN kvs xs
  nz : (d == sysModules) = false
  len : kvs.length ≤ sizeLine
def lookN (kvs : List (NestedKey × V)) (k : NestedKey) : Option V := (kvs.find? fun kv => decide (kv.1 = k)).map (·.2)
def putN (kvs : List (NestedKey × V)) (k : NestedKey) (v : V) : List (NestedKey × V) := if (lookN kvs k).isSome = true then kvs.map (fun kv => if kv.1 = k then (kv.1, v) else kv) else kvs ++ [(k, v)]
theorem NDict.kp {P : Program} {w : World} {H H' : Hp} {d : Addr} {kvs : List (NestedKey × V)} (n : NDict P w H d kvs) (t : TKp H H') (e : H' d = H d) : NDict P w H' d kvs := by
  obtain ⟨xs, h1, h2, h3⟩ := n.ex
  exact ⟨⟨xs, e.trans h1, fun x hx => ⟨(h2 x hx).1.kp t, (h2 x hx).2⟩, h3⟩, n.nz, n.len⟩
theorem PairN.look : ∀ {kvs : List (NestedKey × V)} {xs : List (NestedKey × Addr × Value)} {k : NestedKey}, PairN kvs xs →
    (lookN kvs k = none ∧ atKey xs k = none) ∨ ∃ v p, lookN kvs k = some v ∧ atKey xs k = some p ∧ RelV v p.2
  | _, _, k, .nil => .inl ⟨rfl, rfl⟩
  | _, _, k, .cons (a := x) (b := y) r t => by
    by_cases h : x.1 = k
    · refine .inr ⟨x.2, y.2, ?_, ?_, r.2⟩
      · simp [lookN, h]
      · simp [atKey, r.1.symm.trans h]
    · have h2 : ¬ y.1 = k := fun z => h (r.1.trans z)
      have e1 : ∀ l, lookN (x :: l) k = lookN l k := fun l => by simp [lookN, h]
      have e2 : ∀ l, atKey (y :: l) k = atKey l k := fun l => by simp [atKey, h2]
      rw [e1, e2]
      exact PairN.look t

theorem PairN.any : ∀ {kvs : List (NestedKey × V)} {xs : List (NestedKey × Addr × Value)} {k : NestedKey}, PairN kvs xs → (lookN kvs k).isSome = (atKey xs k).isSome := fun {kvs xs k} r => by
  rcases r.look (k := k) with ⟨h1, h2⟩ | ⟨v, p, h1, h2, _⟩
  · rw [h1, h2]; rfl
  · rw [h1, h2]; rfl
theorem PairN.length {kvs : List (NestedKey × V)} {xs : List (NestedKey × Addr × Value)} (r : PairN kvs xs) : kvs.length = xs.length := Paired.length r
theorem PairN.app : ∀ {kvs : List (NestedKey × V)} {xs : List (NestedKey × Addr × Value)} {k : NestedKey} {v : V} {a : Addr} {u : Value}, PairN kvs xs → RelV v u → PairN (kvs ++ [(k, v)]) (xs ++ [(k, a, u)])
  | _, _, _, _, _, _, .nil, r => .cons ⟨rfl, r⟩ .nil
  | _, _, _, _, _, _, .cons h t, r => .cons h (PairN.app t r)
theorem PairN.rep : ∀ {kvs : List (NestedKey × V)} {xs : List (NestedKey × Addr × Value)} {k : NestedKey} {v : V} {u : Value}, PairN kvs xs → RelV v u →
    PairN (kvs.map (fun kv => if kv.1 = k then (kv.1, v) else kv)) (xs.map (putAt k u))
  | _, _, _, _, _, .nil, r => .nil
  | _, _, k, v, u, .cons (a := x) (b := y) h t, r => by
    refine .cons ?_ (PairN.rep t r)
    unfold putAt
    by_cases e : x.1 = k
    · have e2 : y.1 = k := h.1.symm.trans e
      simp only [e, e2, if_true]
      exact ⟨trivial, r⟩
    · have e2 : ¬ y.1 = k := fun z => e (h.1.trans z)
      simp only [e, e2, if_false]
      exact h
theorem PairN.put {kvs : List (NestedKey × V)} {xs : List (NestedKey × Addr × Value)} {k : NestedKey} {v : V} {a : Addr} {u : Value} (p : PairN kvs xs) (r : RelV v u) : PairN (putN kvs k v) (storedH xs k a u) := by
  unfold putN storedH
  rw [p.any]
  split
  · exact p.rep r
  · exact p.app r

theorem nents_ok {P : Program} {w : World} {H : Hp} {h : Heap} {d : Addr} {xs : List (NestedKey × Addr × Value)} (e : NEnts P w d xs h) : ObjOk P w H h d (.ext (NEnts P w d xs)) := by
  obtain ⟨o, es, ep, h1, h2, h3, h4, h5⟩ := id e
  refine ⟨e, ⟨o, h1⟩, fun a b x k => ?_⟩
  obtain ⟨o', es', ep', g1, g2, g3, g4, g5⟩ := x
  exact ⟨o', es', ep', k _ g1, g2, g3, g4, g5⟩
theorem tkp_upd {H : Hp} {d : Addr} {o : HO} (h : ∀ vs, H d ≠ some (.tup vs)) : TKp H (upd H d o) := fun b vs e => by
  rw [upd_ne (fun z => h vs (by rw [← z]; exact e))]
  exact e
section
variable {X : Cx} {pins : List (Addr × Obj)} {σ : L2.St} {H : Hp} {s : Shared} {d a : Addr} {k : NestedKey} {kvs : List (NestedKey × V)} {E : Value → Shared → Prop}
theorem NDict.dict (I : Inv X pins σ H s) (n : NDict X.prog X.w H d kvs) : ∃ xs, H d = some (.ext (NEnts X.prog X.w d xs)) ∧ s.heap.DictOfH (nestedKind X.prog X.w) d xs ∧ PairN kvs xs ∧ (∀ x ∈ xs, NK H x.1 (.ref x.2.1) ∧ x.1.depth ≤ 8) := by
  obtain ⟨xs, h1, h2, h3⟩ := n.ex
  obtain ⟨⟨o, es, ep, g1, g2, g3, g4, g5⟩, _, _⟩ := (show ObjOk X.prog X.w H s.heap d (.ext (NEnts X.prog X.w d xs)) from I.hok d _ h1)
  exact ⟨xs, h1, ⟨o, es, ep, g1, g2, g3, g4, fun x hx => ⟨(h2 x hx).1.is I rfl, (h2 x hx).2⟩, g5⟩, h3, h2⟩
theorem nroom {A : Around} (hu : A.units + 64 < cLine) : (nestedKind X.prog X.w).room A.in1 := by
  show A.units + 1 + 8 < cLine
  omega
theorem nroom0 {A : Around} (hu : A.units + 64 < cLine) : (nestedKind X.prog X.w).room A := by
  show A.units + 8 < cLine
  omega
def KeyAt (H : Hp) (k : NestedKey) (y : V) : Prop := ∃ a, y = .ref a ∧ NK H k (.ref a) ∧ k.depth ≤ 8
theorem n_in {Q : VK} {iv : Value} {y : V} (hu : X.A.units + 64 < cLine) (I : Inv X pins σ H s) (n : NDict X.prog X.w H d kvs) (ky : KeyAt H k y) (ry : RelV y iv) (q : Q (.bl (lookN kvs k).isSome) H) : wpAny (model X.prog X.w) X.A (compareOp .In iv (.ref d)) (EP X pins σ Q) E s := by
  obtain ⟨a, rfl, nk, hd⟩ := ky
  obtain rfl : iv = Value.ref a := ry
  obtain ⟨xs, _, hx, hp, _⟩ := n.dict I
  refine wpAny_in_heap (nroom hu) ⟨nk.is I rfl, hd⟩ n.nz hx ?_
  rw [← hp.any]
  exact ⟨.bl _, H, I.tok _, rfl, q⟩
theorem n_notIn {Q : VK} {iv : Value} {y : V} (hu : X.A.units + 64 < cLine) (I : Inv X pins σ H s) (n : NDict X.prog X.w H d kvs) (ky : KeyAt H k y) (ry : RelV y iv) (q : Q (.bl (!(lookN kvs k).isSome)) H) : wpAny (model X.prog X.w) X.A (compareOp .NotIn iv (.ref d)) (EP X pins σ Q) E s := by
  obtain ⟨a, rfl, nk, hd⟩ := ky
  obtain rfl : iv = Value.ref a := ry
  obtain ⟨xs, _, hx, hp, _⟩ := n.dict I
  show wpAny _ _ (do return Value.bool (!(← contains (.ref d) (.ref a)))) _ E s
  refine wpAny_bind (wpAny_contains_heap (nroom hu) ⟨nk.is I rfl, hd⟩ n.nz hx (wpAny_pure ?_))
  rw [← hp.any]
  exact ⟨.bl _, H, I.tok _, rfl, q⟩
theorem n_get {Q : VK} {iv : Value} {y v : V} (hu : X.A.units + 64 < cLine) (I : Inv X pins σ H s) (n : NDict X.prog X.w H d kvs) (ky : KeyAt H k y) (ry : RelV y iv) (hv : lookN kvs k = some v) (q : Q v H) : wpAny (model X.prog X.w) X.A (getItem (.ref d) iv) (EP X pins σ Q) E s := by
  obtain ⟨a, rfl, nk, hd⟩ := ky
  obtain rfl : iv = Value.ref a := ry
  obtain ⟨xs, _, hx, hp, _⟩ := n.dict I
  rcases hp.look (k := k) with ⟨h1, _⟩ | ⟨v', p, h1, h2, h3⟩
  · rw [h1] at hv; cases hv
  · rw [h1] at hv
    cases hv
    exact wpAny_getItem_heap (nroom hu) ⟨nk.is I rfl, hd⟩ hx h2 ⟨v, H, I.tok _, h3, q⟩
theorem n_put {Q : Unit → Shared → Prop} {iv u : Value} {y v : V} (hu : X.A.units + 64 < cLine) (I : Inv X pins σ H s) (n : NDict X.prog X.w H d kvs) (ky : KeyAt H k y) (ry : RelV y iv) (rv : RelV v u) (hz : kvs.length < sizeLine)
    (q : ∀ o s', NDict X.prog X.w (upd H d o) d (putN kvs k v) → Inv X pins σ (upd H d o) s' → Q () s') : wpAny (model X.prog X.w) X.A (setItem (.ref d) iv u) Q E s := by
  obtain ⟨a, rfl, nk, hd⟩ := ky
  obtain rfl : iv = Value.ref a := ry
  obtain ⟨xs, e, hx, hp, hk⟩ := n.dict I
  refine wpAny_setItem_heap (hsz := by rw [← hp.length]; omega) (nroom hu) ⟨nk.is I rfl, hd⟩ hx fun h' hm' hs => ?_
  obtain ⟨o, es, ep, g1, g2, g3, g4, _, g5⟩ := hm'
  have tk : ∀ o', TKp H (upd H d o') := fun o' => tkp_upd fun vs z => by rw [e] at z; cases z
  refine q (.ext (NEnts X.prog X.w d (storedH xs k a u))) _ ⟨⟨_, upd_same, fun x hx' => ?_, hp.put rv⟩, n.nz, ?_⟩
    (I.write (t' := s.toks + (nestedKind X.prog X.w).draws k) (x := d) (e := d) (by rw [e]; exact True.intro) (.inl rfl) (fun b ob hb eb => (hs.2 b hb).trans eb) ⟨o, g1⟩ (nents_ok ⟨o, es, ep, g1, g2, g3, g4, g5⟩))
  · unfold storedH at hx'
    split at hx'
    · obtain ⟨z, hz1, rfl⟩ := List.mem_map.mp hx'
      have h3 := hk z hz1
      unfold putAt
      split
      · exact ⟨h3.1.kp (tk _), h3.2⟩
      · exact ⟨h3.1.kp (tk _), h3.2⟩
    · rcases List.mem_append.mp hx' with z | z
      · exact ⟨(hk x z).1.kp (tk _), (hk x z).2⟩
      · have e2 : x = (k, a, u) := by simpa using z
        subst e2
        exact ⟨nk.kp (tk _), hd⟩
  · unfold putN
    split
    · rw [List.length_map]; omega
    · rw [List.length_append, List.length_singleton]; omega
end

def tNIn (P : Program) (w : World) (ty td : TE) : TE := fun σ H Q => ty σ H fun y H1 => td σ H1 fun x H2 => ∃ d k kvs, x = .ref d ∧ NDict P w H2 d kvs ∧ KeyAt H2 k y ∧ Q (.bl (lookN kvs k).isSome) H2
def tNNotIn (P : Program) (w : World) (ty td : TE) : TE := fun σ H Q => ty σ H fun y H1 => td σ H1 fun x H2 => ∃ d k kvs, x = .ref d ∧ NDict P w H2 d kvs ∧ KeyAt H2 k y ∧ Q (.bl (!(lookN kvs k).isSome)) H2
def tNGet (P : Program) (w : World) (td ty : TE) : TE := fun σ H Q => td σ H fun x H1 => ty σ H1 fun y H2 => ∃ d k kvs v, x = .ref d ∧ NDict P w H2 d kvs ∧ KeyAt H2 k y ∧ lookN kvs k = some v ∧ Q v H2
def sNPut (P : Program) (w : World) (td ty tv : TE) : TS := fun D σ H => tv σ H fun v H1 => td σ H1 fun x H2 => ty σ H2 fun y H3 => ∃ d k kvs, x = .ref d ∧ NDict P w H3 d kvs ∧ KeyAt H3 k y ∧ kvs.length < sizeLine ∧ ∀ o, NDict P w (upd H3 d o) d (putN kvs k v) → D.nx σ (upd H3 d o)
def tNNew (P : Program) (w : World) : TE := fun _ H Q => ∀ p o, H p = none → NDict P w (upd H p o) p [] → Q (.ref p) (upd H p o)
section
variable {X : Cx} {i o value : Expr} {ty td tv : TE} {pos pos' : Pos}
theorem pc_nin (hu : X.A.units + 64 < cLine) (hi : PE X i ty) (ho : PE X o td) : PC X .In i o (tNIn X.prog X.w ty td) := by
  refine ⟨fun pins s σ H Q I h => ?_⟩
  refine thn (hi.run pins s σ H _ I h) fun iv s1 ⟨y, H1, I1, ry, q1⟩ => thn (ho.run pins s1 σ H1 _ I1 q1) fun u s2 ⟨x, H2, I2, rx, d, k, kvs, ex, n, ky, q2⟩ => ?_
  subst ex
  obtain rfl : u = Value.ref d := rx
  exact n_in hu I2 n ky ry q2
theorem pc_nnotin (hu : X.A.units + 64 < cLine) (hi : PE X i ty) (ho : PE X o td) : PC X .NotIn i o (tNNotIn X.prog X.w ty td) := by
  refine ⟨fun pins s σ H Q I h => ?_⟩
  refine thn (hi.run pins s σ H _ I h) fun iv s1 ⟨y, H1, I1, ry, q1⟩ => thn (ho.run pins s1 σ H1 _ I1 q1) fun u s2 ⟨x, H2, I2, rx, d, k, kvs, ex, n, ky, q2⟩ => ?_
  subst ex
  obtain rfl : u = Value.ref d := rx
  exact n_notIn hu I2 n ky ry q2
theorem pe_nget (hu : X.A.units + 64 < cLine) (ho : PE X o td) (hi : PE X i ty) (hs : NoSl i) : PE X (.Subscript o i pos) (tNGet X.prog X.w td ty) := by
  refine ⟨fun pins s σ H Q I h => ?_⟩
  refine subD_of PySem.F.slot_dict_getitem.lookup hs (thn (ho.run pins s σ H _ I h) fun u s1 ⟨x, H1, I1, rx, q1⟩ => thn (hi.run pins s1 σ H1 _ I1 q1) fun iv s2 ⟨y, H2, I2, ry, d, k, kvs, v, ex, n, ky, e, q2⟩ => ?_)
  subst ex
  obtain rfl : u = Value.ref d := rx
  obtain ⟨xs, _, hx, _, _⟩ := n.dict I2
  exact ⟨hx.typeIs, n_get hu I2 n ky ry e q2⟩
theorem ps_nput (hu : X.A.units + 64 < cLine) (ho : PE X o td) (hi : PE X i ty) (hv : PE X value tv) (hs : swapsWith value (some (.Subscript o i pos')) pos.line X.env = pure false) :
    PS X (.Assign [.Subscript o i pos'] value pos) (sNPut X.prog X.w td ty tv) := by
  refine ⟨fun pins s σ H D I h => ?_⟩
  refine wpAny_Assign_Subscript (thn (hv.run pins s σ H _ I h) fun r s1 ⟨v, H1, I1, rv, q1⟩ => thn (ho.run pins s1 σ H1 _ I1 q1) fun u s2 ⟨x, H2, I2, rx, q2⟩ => thn (hi.run pins s2 σ H2 _ I2 q2) fun iv s3 ⟨y, H3, I3, ry, d, k, kvs, ex, n, ky, hz, q3⟩ => ?_) hs
  subst ex
  obtain rfl : u = Value.ref d := rx
  exact n_put hu I3 n ky ry rv hz fun o s4 n4 I4 => ⟨σ, _, I4, q3 o n4⟩
theorem nempty {P : Program} {w : World} {h : Heap} : NEnts P w h.objs.size [] (h.push { cls := .type "dict", data := .dict #[] }) := ⟨_, #[], 0, Heap.get?_push_size _ rfl, ⟨rfl, rfl, rfl⟩, rfl, rfl, List.nodup_nil⟩
theorem pe_dnewN : PE X (.Dict [] [] pos) (tNNew X.prog X.w) := ⟨fun pins s σ H Q I h => by
  have hn := I.hok.fresh (Nat.le_refl s.heap.objs.size)
  refine wpAny_Dict_empty ⟨.ref s.heap.objs.size, _, I.laid (a := s.heap.objs.size) (o := .ext (NEnts X.prog X.w s.heap.objs.size [])) (t' := s.toks) (fun _ _ q => Heap.get?_push_of_some _ q) (Nat.le_refl _) (nents_ok nempty), rfl, h _ _ hn ?_⟩
  exact ⟨⟨[], upd_same, fun x hx => by simp at hx, .nil⟩, beq_eq_false_iff_ne.mpr (Ne.symm (Nat.ne_of_lt I.big)), Nat.zero_le _⟩⟩
/-- len of such a dict -/
theorem call_lenN : CallR X (.builtin "len") (fun xs H Q => ∃ d kvs, xs = [V.ref d] ∧ NDict X.prog X.w H d kvs ∧ Q (.int kvs.length) H) := by
  intro pins s σ H xs us Q I r h
  obtain ⟨d, kvs, rfl, n, q⟩ := h
  obtain ⟨u, rfl, ru⟩ := vals1 r
  cases ru
  obtain ⟨xs, _, hx, hp, _⟩ := n.dict I
  have hl := n.len
  have hd : s.heap.DictKeyed (nestedKind X.prog X.w) d (pairsH xs) := ⟨xs, hx, rfl⟩
  have e : (pairsH xs).length = kvs.length := by rw [pairsH_length, hp.length]
  refine PyProof.Rows.call_len_slot (n := ((pairsH xs).length : Nat)) hx.typeIs PySem.F.slot_dict_len (fun Q' hq => len_keyed n.nz hd hq) (by omega) (by rw [e]; rw [sizeLine_eq] at hl; omega) ?_
  rw [e]
  exact ⟨.int _, H, I.tok _, ⟨_, rfl⟩, q⟩
/-- {k: v}, k a tuple -/
def tDisp1N (P : Program) (w : World) (tk tv : TE) : TE := fun σ H Q => ∀ p o, H p = none → NDict P w (upd H p o) p [] → tk σ (upd H p o) fun y H1 => tv σ H1 fun v H2 => ∃ k, KeyAt H2 k y ∧ NDict P w H2 p [] ∧ ∀ o', NDict P w (upd H2 p o') p [(k, v)] → Q (.ref p) (upd H2 p o')
theorem pe_disp1N {k v : Expr} {tk tv : TE} (hu : X.A.units + 64 < cLine) (hk : PE X k tk) (hv : PE X v tv) : PE X (.Dict [some k] [v] pos) (tDisp1N X.prog X.w tk tv) := by
  refine ⟨fun pins s σ H Q I h => ?_⟩
  have hn := I.hok.fresh (Nat.le_refl s.heap.objs.size)
  have I1 := I.laid (a := s.heap.objs.size) (o := .ext (NEnts X.prog X.w s.heap.objs.size [])) (h' := s.heap.push { cls := .type "dict", data := .dict #[] }) (t' := s.toks) (fun _ _ q => Heap.get?_push_of_some _ q) (Nat.le_refl _) (nents_ok nempty)
  have nz : (s.heap.objs.size == sysModules) = false := beq_eq_false_iff_ne.mpr (Ne.symm (Nat.ne_of_lt I.big))
  have h1 := h s.heap.objs.size (.ext (NEnts X.prog X.w s.heap.objs.size [])) hn ⟨⟨[], upd_same, fun x hx => by simp at hx, .nil⟩, nz, Nat.zero_le _⟩
  have hshape : (evalEachOpt [some k] X.env).zip ((evalEach [v] X.env).map fun v => do let x ← v; standAt pos; pure x) = (pairTrees [some k] [v] X.env pos).map fun p => (some p.1, p.2) := by rfl
  show wpAny _ _ _ _ _ _
  rw [arm_eval_Dict, hshape, dictDisplay_pairs (pairTrees [some k] [v] X.env pos) (by intro z; cases z) (by show 1 < 17; decide)]
  refine wpAny_bind (wpAny_standAt (wpAny_bind (wpAny_subDictH (knd := nestedKind X.prog X.w) (Q := fun d s' => wpAny (model X.prog X.w) X.A (pure (Value.ref d)) (EP X pins σ Q) X.xe s') (nroom0 hu) (by show 1 ≤ 15; decide) ?_)))
  refine thn ((pps_cons hk hv pps_nil).run pins _ σ _ (fun ps H2 => match ps with
    | [(y, v)] => ∃ k, KeyAt H2 k y ∧ NDict X.prog X.w H2 s.heap.objs.size [] ∧ ∀ o', NDict X.prog X.w (upd H2 s.heap.objs.size o') s.heap.objs.size [(k, v)] → Q (.ref s.heap.objs.size) (upd H2 s.heap.objs.size o')
    | _ => False) I1 h1) fun ws s2 ⟨ps, H2, I2, rel, q2⟩ => ?_
  cases rel with
  | nil => exact q2.elim
  | @cons pp bb ps' ws' rr rt =>
    cases rt with
    | cons _ _ => exact q2.elim
    | nil =>
      obtain ⟨y, vv⟩ := pp
      obtain ⟨b1, b2⟩ := bb
      obtain ⟨kk, ⟨a, ea, nk, hd⟩, nd, q2⟩ := q2
      obtain ⟨r1, r2⟩ := rr
      have ea' : y = V.ref a := ea
      subst ea'
      have eb : b1 = Value.ref a := r1
      subst eb
      obtain ⟨xs, e, hx, hp, _⟩ := nd.dict I2
      cases hp
      refine ⟨[(kk, a, b2)], ⟨rfl, rfl, ⟨nk.is I2 rfl, hd⟩, True.intro⟩, hx, fun h' tk hm hs => ?_⟩
      obtain ⟨o, es, ep, g1, g2, g3, g4, _, g5⟩ := hm
      have g4' : es.toList = ([(kk, a, b2)] : List (NestedKey × Addr × Value)).map (entryOfKey (nestedKind X.prog X.w)) := g4
      have tkp : ∀ o', TKp H2 (upd H2 s.heap.objs.size o') := fun o' => tkp_upd fun vs z => by rw [e] at z; cases z
      refine wpAny_pure ⟨.ref s.heap.objs.size, upd H2 s.heap.objs.size (.ext (NEnts X.prog X.w s.heap.objs.size [(kk, a, b2)])), I2.write (t' := tk) (x := s.heap.objs.size) (e := s.heap.objs.size) (by rw [e]; exact True.intro) (.inl rfl) (fun b ob hb eb => (hs.2 b hb).trans eb) ⟨o, g1⟩ (nents_ok ⟨o, es, ep, g1, g2, g3, g4', by simp⟩), rfl, q2 _ ?_⟩
      refine ⟨⟨_, upd_same, fun x hx' => ?_, .cons ⟨rfl, r2⟩ .nil⟩, nz, by show 1 ≤ sizeLine; decide⟩
      have e2 : x = (kk, a, b2) := by simpa using hx'
      subst e2
      exact ⟨nk.kp (tkp _), hd⟩
end
end U
namespace U
open PySem PySem.Spec PyProof.Rows L2
section
variable {prog : Program} {w : World} {A : Around} {E : Value → Shared → Prop} {s : Shared} {K : PySem.W.Frag} {x C L f : Addr} {h₀ : Heap} {m : Str → Option Value} {ox : Obj} {od : Option Obj} {b : Value}
open PySem.W Builtin in
theorem objne_K {Q : Value → Shared → Prop} (hu : A.in1.units < cLine) (X : K.In s.heap) (I : InstAt s.heap x ox C od) (hm : mroIn K C (.type "object") = some true) (hs : findIn K (.ref C) "__eq__" = some (some (.ref f))) (hf : isFn K (.ref f) = true)
    (h : wpAny (model prog w) A.in1 (call (.ref f) [.ref x, b]) (fun v s' => ∃ c, v = .bool c ∧ Q (.bool (!c)) s') E s) : wpAny (model prog w) A (call (.builtin "object.__ne__") [.ref x, b]) Q E s := by
  refine wpAny_call (codeAny_call_builtin PySem.F.cmp_object.ne.plain PySem.F.cmpEntry_ne (check_slot (i := "object.__ne__") (owner := "object") (n := "__ne__") (by decide +kernel) (by decide +kernel) (I.type.andThen (looks_mroIn X hm)) (PySem.F.cmpArgs_ne _ _) ?_))
  unfold Builtin.«object.__ne__»
  refine wpAny_bind (m := slotArgs "__ne__" 1 _) (wpAny_pure ?_)
  refine wpAny_bind (m := cRoomFor _ _) (wpAny_cRoomFor hu ?_)
  refine wpAny_bind (m := callSpecialIfBound? (.ref x) (Str.ofString "__eq__") _) (ifBound_K X I hs hf (wpAny_mono h (fun r s' hq => ?_) fun _ _ y => y))
  obtain ⟨c, rfl, q⟩ := hq
  exact wpAny_bind (wpAny_truthy_bool (wpAny_pure q))
open PySem.W in
theorem ne_K {Q : Value → Shared → Prop} (hu : A.units + 1 < cLine) (F : Fr h₀ L s.heap m) (X₀ : K.In h₀) (I : InstAt s.heap x ox C od) (hb : Looks (model prog w) s.heap (typeOf b) (.ref C)) (hm : mroIn K C (.type "object") = some true)
    (hn : findIn K (.ref C) "__ne__" = some (some (.builtin "object.__ne__"))) (hs : findIn K (.ref C) "__eq__" = some (some (.ref f))) (hf : isFn K (.ref f) = true)
    (h : wpAny (model prog w) A.in1 (call (.ref f) [.ref x, b]) (fun v s' => ∃ c, v = .bool c ∧ Q (.bool (!c)) s') E s) : wpAny (model prog w) A (richCompare .NotEq (.ref x) b) Q E s := by
  have X := X₀.keeps F.keep
  have bnd : ∀ {Q' : Option Value → Shared → Prop}, wpAny (model prog w) A (call (.builtin "object.__ne__") [.ref x, b]) (fun v => Q' (some v)) E s → wpAny (model prog w) A (callSpecialIfBound? (.ref x) "__ne__" [b]) Q' E s := fun {Q'} h' => by
    simp only [callSpecialIfBound?, bindSpecialIfBound?]
    refine wpAny_holding (wpAny_bind (wpAny_bind (wpAny_bind (I.type.here ((looks_findIn X hn).here ?_)))))
    refine wpAny_bind (wpAny_askSetting (wpAny_ite ?_))
    have fin : wpAny (model prog w) A (call (.builtin "object.__ne__") ([.ref x] ++ [b]) >>= fun v => pure (some v)) Q' E s := wpAny_bind (wpAny_mono h' (fun v s' h' => wpAny_pure h') fun _ _ h' => h')
    split
    · exact wpAny_bind ((Looks.of_pure (PySem.F.cmp_object.ne.bind (.ref x))).here (wpAny_pure (by exact fin)))
    · exact wpAny_tryCatch (wpAny_bind ((Looks.of_pure (PySem.F.cmp_object.ne.bind (.ref x))).here (wpAny_pure (by exact fin))))
  have one : wpAny (model prog w) A (tryCompare (.ref x) "__ne__" b) (fun r s' => ∃ v, r = some v ∧ Q v s') E s := by
    unfold tryCompare
    refine wpAny_bind (bnd (objne_K (by show A.units + 1 < cLine; exact hu) X I hm hs hf (wpAny_mono h (fun v s' hv => ?_) fun _ _ e => e)))
    obtain ⟨c, rfl, q⟩ := hv
    exact ⟨c, rfl, wpAny_pure ⟨_, rfl, q⟩⟩
  unfold richCompare
  simp only [oneThing_ref]
  refine wpAny_holding (wpAny_bind (wpAny_cRoomFor (Nat.lt_of_succ_lt hu) ?_))
  refine wpAny_bind (I.type.here (wpAny_bind (hb.here ?_)))
  rw [show (Value.ref C != Value.ref C) = false from by simp]
  simp only [Bool.false_eq_true, if_false]
  refine wpAny_bind (wpAny_pure ?_)
  simp only [Bool.false_eq_true, if_false]
  refine wpAny_bind (wpAny_mono one (fun r s' z => ?_) fun _ _ e => e)
  obtain ⟨v, rfl, hq⟩ := z
  exact wpAny_pure hq
end
/-- an own method under a special name -/
structure OwnM (K : PySem.W.Frag) (C : Addr) (n : Str) (f : Addr) : Prop where
  at_ : PySem.W.findIn K (.ref C) n = some (some (.ref f))
  fn : PySem.W.isFn K (.ref f) = true
section
variable {X : Cx} {CX : CXT} {k : Nat} {f C : Addr} {fd : FuncData} {ps : List Str} {sp : Sp} {E : XK}
def rOwnIn (C : Addr) (sp : Sp) (E : XK) : R2 := fun x y H Q => ∃ a dx fs, y = .ref a ∧ H a = some (.ins C dx fs) ∧ sp [.ref a, x] H (fun z H' => ∃ c, z = .bl c ∧ Q (.bl c) H') E
theorem op_ownin (F : FnOk X.prog X.w X.K X.mg X.base CX k f fd ps sp) (hr : Room k X.A) (o : OwnM X.K C "__contains__" f) (hb : Binds X.K fd ps []) (hx : Passes CX X E) : OpR X (compareOp .In) (rOwnIn C sp E) := by
  intro pins s σ H x y v u Q I rx ry h
  obtain ⟨a, dx, fs, rfl, ha, q⟩ := h
  cases ry
  obtain ⟨mA, J, _⟩ := ins_get I.hok ha
  obtain ⟨od, J, _⟩ := J.look
  obtain ⟨m, hF⟩ := I.fr
  have r2 : Vals [V.ref a, x] [Value.ref a, v] := .cons rfl (.cons rx .nil)
  have z := run_fn (Q := fun z H' => ∃ c, z = .bl c ∧ Q (.bl c) H') F hr hb .nil hx I r2 (by exact q)
  refine PySem.W.in_K hF I.ok.mod.kin J o.at_ o.fn (thn z fun r s' ⟨z, H', I', rz, c, ez, q'⟩ => ?_)
  subst ez
  cases rz
  exact wpAny_truthy_bool ⟨.bl c, H', I', rfl, q'⟩
def rOwnEq (C : Addr) (sp : Sp) (E : XK) : R2 := fun x y H Q => ∃ a dx fs b dy gs, x = .ref a ∧ y = .ref b ∧ H a = some (.ins C dx fs) ∧ H b = some (.ins C dy gs) ∧ sp [.ref a, .ref b] H (fun z H' => ∃ c, z = .bl c ∧ Q (.bl c) H') E
theorem op_owneq (F : FnOk X.prog X.w X.K X.mg X.base CX k f fd ps sp) (hr : Room k X.A) (o : OwnM X.K C "__eq__" f) (hb : Binds X.K fd ps []) (hx : Passes CX X E) : OpR X (compareOp .Eq) (rOwnEq C sp E) := by
  intro pins s σ H x y v u Q I rx ry h
  obtain ⟨a, dx, fs, b, dy, gs, rfl, rfl, ha, hb', q⟩ := h
  cases rx
  cases ry
  obtain ⟨mA, J, _⟩ := ins_get I.hok ha
  obtain ⟨mB, J', _⟩ := ins_get I.hok hb'
  obtain ⟨od, J, _⟩ := J.look
  obtain ⟨od', J', _⟩ := J'.look
  obtain ⟨m, hF⟩ := I.fr
  show wpAny _ _ (richCompare .Eq (.ref a) (.ref b)) _ _ _
  have r2 : Vals [V.ref a, V.ref b] [Value.ref a, Value.ref b] := .cons rfl (.cons rfl .nil)
  have z := run_fn (Q := fun z H' => ∃ c, z = .bl c ∧ Q (.bl c) H') F hr hb .nil hx I r2 (by exact q)
  refine PySem.W.cmp_K (op := .Eq) (tb := .ref C) hr.units0 hF I.ok.mod.kin J J'.type (by simp [PySem.W.notFirst]) o.at_ o.fn (thn z fun r s' ⟨z, H', I', rz, c, ez, q'⟩ => ?_)
  subst ez
  cases rz
  exact ⟨.bl c, H', I', rfl, q'⟩
def rOwnNe (C : Addr) (sp : Sp) (E : XK) : R2 := fun x y H Q => ∃ a dx fs b dy gs, x = .ref a ∧ y = .ref b ∧ H a = some (.ins C dx fs) ∧ H b = some (.ins C dy gs) ∧ sp [.ref a, .ref b] H (fun z H' => ∃ c, z = .bl c ∧ Q (.bl (!c)) H') E
theorem op_ownne (F : FnOk X.prog X.w X.K X.mg X.base CX k f fd ps sp) (hr : Room (k + 1) X.A) (o : OwnM X.K C "__eq__" f) (hn : PySem.W.findIn X.K (.ref C) "__ne__" = some (some (.builtin "object.__ne__"))) (hm : PySem.W.mroIn X.K C (.type "object") = some true)
    (hb : Binds X.K fd ps []) (hx : Passes CX X E) : OpR X (compareOp .NotEq) (rOwnNe C sp E) := by
  intro pins s σ H x y v u Q I rx ry h
  obtain ⟨a, dx, fs, b, dy, gs, rfl, rfl, ha, hb', q⟩ := h
  cases rx
  cases ry
  obtain ⟨mA, J, _⟩ := ins_get I.hok ha
  obtain ⟨mB, J', _⟩ := ins_get I.hok hb'
  obtain ⟨od, J, _⟩ := J.look
  obtain ⟨od', J', _⟩ := J'.look
  obtain ⟨m, hF⟩ := I.fr
  show wpAny _ _ (richCompare .NotEq (.ref a) (.ref b)) _ _ _
  refine ne_K (by have := hr.un; omega) hF I.ok.mod.kin J J'.type hm hn o.at_ o.fn ?_
  have e0 : Env0 X.prog X.w X.K X.mg X.base X.A.in1 X.stack s H := I.env0.in1
  have hl := F.len _ _ _ _ q
  have r2 : Vals [V.ref a, V.ref b] [Value.ref a, Value.ref b] := .cons rfl (.cons rfl .nil)
  refine wpAny_call (codeAny_mono (F.run X.A.in1 X.stack s H ⟨[.ref a, .ref b], []⟩ [.ref a, .ref b] [.ref a, .ref b] _ E hr.in1 e0 (by
    have := hb s [.ref a, .ref b] I.kIn (by simpa using hl)
    simpa using this) r2 q) fun r s' hq => ?_)
  cases r with
  | error e => exact hx pins σ H s e s' I hq
  | ok fl =>
    cases fl with
    | ret w =>
      obtain ⟨z, H', I', rz, c, ez, q'⟩ := I.after hq
      subst ez
      cases rz
      exact ⟨c, rfl, .bl (!c), H', I', rfl, q'⟩
    | next => exact False.elim hq
    | brk => exact False.elim hq
    | cont => exact False.elim hq
end
end U
namespace U
open PySem PySem.Spec PyProof.Rows L2
/-- a list (false), a tuple (true) -/
def sq : Bool → List V → HO
  | false, xs => .lst xs
  | true, xs => .tup xs
def SqK (K : PySem.W.Frag) : Bool → Hp → Addr → List V → Prop
  | false => SqL K
  | true => SqT K
theorem SqK.of {K : PySem.W.Frag} {t : Bool} {H : Hp} {a : Addr} {xs : List V} (h : H a = some (sq t xs)) : SqK K t H a xs := by
  cases t with
  | false => exact SqL.of h
  | true => exact SqT.of h
section
variable {K : PySem.W.Frag} {D : Ends} {σ : L2.St} {H : Hp} {Q : VK} {g : TG} {tb : TS} {te : TE} {ta : TA}
theorem i_ixQ {p : Addr} {t : Bool} {xs : List V} {i : Int} {v : V} (h : H p = some (sq t xs)) (e : atI xs i = some v) (q : Q v H) : rIx K (.ref p) (.int i) H Q := by
  cases t with
  | false => exact i_ixL h e q
  | true => exact i_ixT h e q
theorem lenQ {p : Addr} {t : Bool} {xs : List V} (h : H p = some (sq t xs)) : LenV K (.ref p) H xs.length := by
  cases t with
  | false => exact .inl ⟨xs, SqL.of h, rfl⟩
  | true => exact .inr ⟨xs, SqT.of h, rfl⟩
def ForW (J : It) (g : TG) (tb : TS) (D : Ends) (σ : L2.St) (H : Hp) : Prop := ∃ W : Nat → Nat → L2.St → Hp → Prop, (∃ m, W 0 m σ H) ∧ ∀ i m σ H, W i m σ H →
  (J.stop i H ∧ D.nx σ H) ∨ (J.go i H ∧ ∃ N : L2.St → Hp → Prop, (∀ σ' H', N σ' H' → ∃ m', m' < m ∧ W (i + 1) m' σ' H') ∧ ∀ x H', J.yld i H x H' → g x σ H' fun σ2 H2 => tb { D with nx := N, ct := N, bk := D.nx } σ2 H2)
theorem i_for {wi : TI} (q : wi σ H fun J H1 => ForW J g tb D σ H1) : tFor wi g tb D σ H := q
/-- for, by a word on turn, slots and heap; Y: what the turn yields, G: what must stand for it to -/
theorem for_any {J : It} {n : Nat} (Pv : Nat → L2.St → Hp → Prop) (h0 : Pv 0 σ H) (hst : ∀ σ H, Pv n σ H → J.stop n H) (hgo : ∀ i σ H, i < n → Pv i σ H → J.go i H)
    (hs : ∀ i x σ H H', i < n → Pv i σ H → J.yld i H x H' → g x σ H' fun σ2 H2 => tb { D with nx := Pv (i + 1), ct := Pv (i + 1), bk := D.nx } σ2 H2) (hd : ∀ σ H, Pv n σ H → D.nx σ H) : ForW J g tb D σ H := by
  refine ⟨fun i m σ H => m = n - i ∧ i ≤ n ∧ Pv i σ H, ⟨n, by simp, Nat.zero_le _, h0⟩, ?_⟩
  rintro i m σ H ⟨rfl, hi, p⟩
  by_cases hlt : i < n
  · exact .inr ⟨hgo i σ H hlt p, Pv (i + 1), fun σ' H' p' => ⟨n - (i + 1), by omega, rfl, hlt, p'⟩, fun x H' y => hs i x σ H H' hlt p y⟩
  · have e : i = n := by omega
    subst e
    exact .inl ⟨hst σ H p, hd σ H p⟩
def LcW (J : It) (g : TG) (tt : TT) (te : TE) (vs : List Nat) (σ : L2.St) (H1 : Hp) (D : Addr) (Qd : Hp → Prop) : Prop := ∃ W : Nat → Nat → Hp → Prop, (∃ m, W 0 m (upd H1 D (.lst []))) ∧ ∀ i m H, W i m H →
  (J.stop i H ∧ Qd H) ∨ (J.go i H ∧ ∃ Nx : Hp → Prop, (∀ H', Nx H' → ∃ m', m' < m ∧ W (i + 1) m' H') ∧ ∀ x H', J.yld i H x H' → g x (wipe σ vs) H' fun σ2 H2 => wipe σ2 vs = wipe σ vs ∧ tt σ2 H2 fun b H3 =>
    if b = true then te σ2 H3 fun y H4 => ∃ acc, H4 D = some (.lst acc) ∧ acc.length < sizeLine ∧ Nx (upd H4 D (.lst (acc ++ [y]))) else Nx H3)
theorem i_lc {wi : TI} {tt : TT} {vs : List Nat} (q : wi σ H fun J H1 => ∀ D, H1 D = none → LcW J g tt te vs σ H1 D (Q (.ref D))) : tLc wi g tt te vs σ H Q := q
/-- over anything that goes n turns: what has come into being at D (the list, so long), what stands besides -/
theorem lc_any {J : It} {n : Nat} {tt : TT} {vs : List Nat} {D : Addr} {Qd : Hp → Prop} (Pv : Nat → Hp → Prop) (h0 : Pv 0 (upd H D (.lst [])))
    (hst : ∀ H, Pv n H → J.stop n H) (hgo : ∀ i H, i < n → Pv i H → J.go i H)
    (hs : ∀ i x H H', i < n → Pv i H → J.yld i H x H' → g x (wipe σ vs) H' fun σ2 H2 => wipe σ2 vs = wipe σ vs ∧ tt σ2 H2 fun b H3 =>
      if b = true then te σ2 H3 fun y H4 => ∃ acc, H4 D = some (.lst acc) ∧ acc.length < sizeLine ∧ Pv (i + 1) (upd H4 D (.lst (acc ++ [y]))) else Pv (i + 1) H3)
    (hd : ∀ H, Pv n H → Qd H) : LcW J g tt te vs σ H D Qd := by
  refine ⟨fun i m H => m = n - i ∧ i ≤ n ∧ Pv i H, ⟨n, by simp, Nat.zero_le _, h0⟩, ?_⟩
  rintro i m H ⟨rfl, hi, p⟩
  by_cases hlt : i < n
  · exact .inr ⟨hgo i H hlt p, Pv (i + 1), fun H' p' => ⟨n - (i + 1), by omega, rfl, hlt, p'⟩, fun x H' y => hs i x H H' hlt p y⟩
  · have e : i = n := by omega
    subst e
    exact .inl ⟨hst H p, hd H p⟩
def ISeq (K : PySem.W.Frag) (R : It → Hp → Prop) (x : V) (H1 : Hp) : Prop := ∃ a, x = .ref a ∧ (((∃ xs, SqL K H1 a xs) ∧ R (Itl K a) H1) ∨ ((∃ xs, SqT K H1 a xs) ∧ R (Itt K a) H1))
theorem i_iSeq {tl : TE} {R : It → Hp → Prop} (q : tl σ H (ISeq K R)) : iSeq K tl σ H R := q
theorem i_iRng1 {R : It → Hp → Prop} (q : ta σ H fun vs H1 => ∃ j : Int, vs = [.int j] ∧ -(2 ^ 62) ≤ j ∧ j < 2 ^ 62 ∧ R (Itr 0 j.toNat) H1) : iRng1 ta σ H R := q
theorem i_iRng2 {R : It → Hp → Prop} (q : ta σ H fun vs H1 => ∃ i j : Int, vs = [.int i, .int j] ∧ (-(2 ^ 62) ≤ i ∧ i < 2 ^ 62 ∧ -(2 ^ 62) ≤ j ∧ j < 2 ^ 62) ∧ R (Itr i (j - i).toNat) H1) : iRng2 ta σ H R := q
theorem i_iStr {tl : TE} {R : It → Hp → Prop} (q : tl σ H fun v H1 => ∃ x, v = .str x ∧ R (Its x) H1) : iStr tl σ H R := q
theorem i_iEnumS {R : It → Hp → Prop} (q : ta σ H fun vs H1 => ∃ z, vs = [.str z] ∧ R (IteS z) H1) : iEnumS ta σ H R := q
theorem i_iEnumR {R : It → Hp → Prop} (q : ta σ H fun vs H1 => ∃ a, vs = [.ref a] ∧ (((∃ xs, SqL K H1 a xs) ∧ R (Ite K a) H1) ∨ ((∃ xs, SqT K H1 a xs) ∧ R (IteT K a) H1))) : iEnumR K ta σ H R := q
theorem ex_rng1 {j : Nat} {R : Nat → Prop} (h : j < 2 ^ 62) (r : R j) : ∃ i : Int, [V.int (j : Int)] = [.int i] ∧ -(2 ^ 62) ≤ i ∧ i < 2 ^ 62 ∧ R i.toNat := ⟨j, rfl, by omega, by omega, by rw [Int.toNat_natCast]; exact r⟩
theorem ex_rng1i {j : Int} {R : Nat → Prop} (h0 : 0 ≤ j) (h : j < 2 ^ 62) (r : ∀ n : Nat, (n : Int) = j → R n) : ∃ i : Int, [V.int j] = [.int i] ∧ -(2 ^ 62) ≤ i ∧ i < 2 ^ 62 ∧ R i.toNat := ⟨j, rfl, by omega, by omega, r _ (by omega)⟩
theorem ex_str {z : Str} {P : Str → Prop} (h : P z) : ∃ x, V.str z = .str x ∧ P x := ⟨z, rfl, h⟩
theorem ex_str1 {z : Str} {P : Str → Prop} (h : P z) : ∃ x, [V.str z] = [.str x] ∧ P x := ⟨z, rfl, h⟩
section
variable {a : Addr} {t : Bool} {xs : List V}
theorem seq_for (h : H a = some (sq t xs)) (Pv : Nat → L2.St → Hp → Prop) (h0 : Pv 0 σ H) (hl : ∀ i σ H, i ≤ xs.length → Pv i σ H → H a = some (sq t xs))
    (hs : ∀ i x σ H, xs[i]? = some x → Pv i σ H → g x σ H fun σ2 H2 => tb { D with nx := Pv (i + 1), ct := Pv (i + 1), bk := D.nx } σ2 H2) (hd : ∀ σ H, Pv xs.length σ H → D.nx σ H) : ISeq K (fun J H1 => ForW J g tb D σ H1) (.ref a) H := by
  refine ⟨a, rfl, ?_⟩
  cases t with
  | false => exact .inl ⟨⟨xs, SqL.of h⟩, for_list (K := K) (a := a) (xs := xs) Pv h0 (fun i σ H hi p => SqL.of (hl i σ H hi p)) hs hd⟩
  | true => exact .inr ⟨⟨xs, SqT.of h⟩, for_tup (K := K) (a := a) (xs := xs) Pv h0 (fun i σ H hi p => SqT.of (hl i σ H hi p)) hs hd⟩
theorem seq_lc {tt : TT} {vs : List Nat} {Qd : Addr → Hp → Prop} (h : H a = some (sq t xs)) (r : ∀ D, H D = none → ∃ Pv : Nat → Hp → Prop, Pv 0 (upd H D (.lst [])) ∧ (∀ i H, i ≤ xs.length → Pv i H → H a = some (sq t xs)) ∧
    (∀ i x H, xs[i]? = some x → Pv i H → g x (wipe σ vs) H fun σ2 H2 => wipe σ2 vs = wipe σ vs ∧ tt σ2 H2 fun b H3 =>
      if b = true then te σ2 H3 fun y H4 => ∃ acc, H4 D = some (.lst acc) ∧ acc.length < sizeLine ∧ Pv (i + 1) (upd H4 D (.lst (acc ++ [y]))) else Pv (i + 1) H3) ∧
    ∀ H, Pv xs.length H → Qd D H) : ISeq K (fun J H1 => ∀ D, H1 D = none → LcW J g tt te vs σ H1 D (Qd D)) (.ref a) H := by
  refine ⟨a, rfl, ?_⟩
  cases t with
  | false =>
    refine .inl ⟨⟨xs, SqL.of h⟩, fun D hD => ?_⟩
    obtain ⟨Pv, h0, hl, hs, hd⟩ := r D hD
    exact lc_list (K := K) (a := a) (xs := xs) Pv h0 (fun i H hi p => SqL.of (hl i H hi p)) hs hd
  | true =>
    refine .inr ⟨⟨xs, SqT.of h⟩, fun D hD => ?_⟩
    obtain ⟨Pv, h0, hl, hs, hd⟩ := r D hD
    exact lc_tup (K := K) (a := a) (xs := xs) Pv h0 (fun i H hi p => SqT.of (hl i H hi p)) hs hd
theorem rng_for {lo : Int} {n : Nat} (Pv : Nat → L2.St → Hp → Prop) (h0 : Pv 0 σ H)
    (hs : ∀ i σ H, i < n → Pv i σ H → g (.int (lo + i)) σ H fun σ2 H2 => tb { D with nx := Pv (i + 1), ct := Pv (i + 1), bk := D.nx } σ2 H2) (hd : ∀ σ H, Pv n σ H → D.nx σ H) : ForW (Itr lo n) g tb D σ H := for_range Pv h0 hs hd
theorem rng0_for {n : Nat} (Pv : Nat → L2.St → Hp → Prop) (h0 : Pv 0 σ H)
    (hs : ∀ i σ H, i < n → Pv i σ H → g (.int (i : Int)) σ H fun σ2 H2 => tb { D with nx := Pv (i + 1), ct := Pv (i + 1), bk := D.nx } σ2 H2) (hd : ∀ σ H, Pv n σ H → D.nx σ H) : ForW (Itr 0 n) g tb D σ H :=
  for_range Pv h0 (fun i σ H hi p => by rw [Int.zero_add]; exact hs i σ H hi p) hd
theorem rng0_lc {n : Nat} {tt : TT} {vs : List Nat} {D : Addr} {Qd : Hp → Prop} (Pv : Nat → Hp → Prop) (h0 : Pv 0 (upd H D (.lst [])))
    (hs : ∀ i H, i < n → Pv i H → g (.int (i : Int)) (wipe σ vs) H fun σ2 H2 => wipe σ2 vs = wipe σ vs ∧ tt σ2 H2 fun b H3 =>
      if b = true then te σ2 H3 fun y H4 => ∃ acc, H4 D = some (.lst acc) ∧ acc.length < sizeLine ∧ Pv (i + 1) (upd H4 D (.lst (acc ++ [y]))) else Pv (i + 1) H3) (hd : ∀ H, Pv n H → Qd H) : LcW (Itr 0 n) g tt te vs σ H D Qd :=
  lc_range (lo := 0) Pv h0 (fun i H hi p => by rw [Int.zero_add]; exact hs i H hi p) hd
theorem str_for {z : Str} (Pv : Nat → L2.St → Hp → Prop) (h0 : Pv 0 σ H)
    (hs : ∀ i c σ H, z.cps[i]? = some c → Pv i σ H → g (.str ⟨#[c]⟩) σ H fun σ2 H2 => tb { D with nx := Pv (i + 1), ct := Pv (i + 1), bk := D.nx } σ2 H2) (hd : ∀ σ H, Pv z.cps.size σ H → D.nx σ H) : ForW (Its z) g tb D σ H := by
  refine for_any (n := z.cps.size) Pv h0 (fun _ _ _ => Nat.le_refl _) (fun _ _ _ h _ => h) (fun i x σ H H' hi p y => ?_) hd
  obtain ⟨rfl, c, hc, rfl⟩ := y
  exact hs i c σ _ hc p
theorem str_lc {z : Str} {tt : TT} {vs : List Nat} {D : Addr} {Qd : Hp → Prop} (Pv : Nat → Hp → Prop) (h0 : Pv 0 (upd H D (.lst [])))
    (hs : ∀ i c H, z.cps[i]? = some c → Pv i H → g (.str ⟨#[c]⟩) (wipe σ vs) H fun σ2 H2 => wipe σ2 vs = wipe σ vs ∧ tt σ2 H2 fun b H3 =>
      if b = true then te σ2 H3 fun y H4 => ∃ acc, H4 D = some (.lst acc) ∧ acc.length < sizeLine ∧ Pv (i + 1) (upd H4 D (.lst (acc ++ [y]))) else Pv (i + 1) H3) (hd : ∀ H, Pv z.cps.size H → Qd H) : LcW (Its z) g tt te vs σ H D Qd := by
  refine lc_any (n := z.cps.size) Pv h0 (fun _ _ => Nat.le_refl _) (fun _ _ h _ => h) (fun i x H H' hi p y => ?_) hd
  obtain ⟨rfl, c, hc, rfl⟩ := y
  exact hs i c _ hc p
theorem enumS_for {z : Str} (Pv : Nat → L2.St → Hp → Prop) (h0 : Pv 0 σ H)
    (hs : ∀ i c T σ H, z.cps[i]? = some c → Pv i σ H → H T = none → g (.ref T) σ (upd H T (.tup [.int (i : Nat), .str ⟨#[c]⟩])) fun σ2 H2 => tb { D with nx := Pv (i + 1), ct := Pv (i + 1), bk := D.nx } σ2 H2) (hd : ∀ σ H, Pv z.cps.size σ H → D.nx σ H) : ForW (IteS z) g tb D σ H := by
  refine for_any (n := z.cps.size) Pv h0 (fun _ _ _ => rfl) (fun _ _ _ h _ => h) (fun i x σ H H' hi p y => ?_) hd
  obtain ⟨T, c, rfl, hT, rfl, hc⟩ := y
  exact hs i c T σ _ hc p hT
theorem enumR_for (h : H a = some (sq t xs)) (Pv : Nat → L2.St → Hp → Prop) (h0 : Pv 0 σ H) (hl : ∀ i σ H, i ≤ xs.length → Pv i σ H → H a = some (sq t xs))
    (hs : ∀ i x T σ H, xs[i]? = some x → Pv i σ H → H T = none → g (.ref T) σ (upd H T (.tup [.int (i : Nat), x])) fun σ2 H2 => tb { D with nx := Pv (i + 1), ct := Pv (i + 1), bk := D.nx } σ2 H2) (hd : ∀ σ H, Pv xs.length σ H → D.nx σ H) :
    ∃ a', [V.ref a] = [.ref a'] ∧ (((∃ xs, SqL K H a' xs) ∧ ForW (Ite K a') g tb D σ H) ∨ ((∃ xs, SqT K H a' xs) ∧ ForW (IteT K a') g tb D σ H)) := by
  refine ⟨a, rfl, ?_⟩
  cases t with
  | false =>
    refine .inl ⟨⟨xs, SqL.of h⟩, for_any (n := xs.length) Pv h0 (fun σ H p => ⟨xs, SqL.of (hl _ σ H (Nat.le_refl _) p), Nat.le_refl _⟩) (fun i σ H hi p => ⟨xs, xs[i], SqL.of (hl _ σ H (Nat.le_of_lt hi) p), by simp [hi]⟩) (fun i x σ H H' hi p y => ?_) hd⟩
    obtain ⟨T, z, rfl, hT, rfl, hz⟩ := y
    exact hs i z T σ _ (hz xs (SqL.of (hl _ σ H (Nat.le_of_lt hi) p))) p hT
  | true =>
    refine .inr ⟨⟨xs, SqT.of h⟩, for_any (n := xs.length) Pv h0 (fun σ H p => ⟨xs, SqT.of (hl _ σ H (Nat.le_refl _) p), rfl⟩) (fun i σ H hi p => ⟨xs, xs[i], SqT.of (hl _ σ H (Nat.le_of_lt hi) p), by simp [hi]⟩) (fun i x σ H H' hi p y => ?_) hd⟩
    obtain ⟨T, z, rfl, hT, rfl, hz⟩ := y
    exact hs i z T σ _ (hz xs (SqT.of (hl _ σ H (Nat.le_of_lt hi) p))) p hT
end
theorem i_chain {r r' : R2} {tb' tc : TE} (q : te σ H fun x H1 => tb' σ H1 fun y H2 => r x y H2 fun z H3 => ∃ k, z = .bl k ∧ (if k = true then tc σ H3 fun w' H4 => r' y w' H4 Q else Q (.bl false) H3)) : tChain r r' te tb' tc σ H Q := q
theorem i_m1 {r : V → List V → Hp → VK → Prop} {to te : TE} (q : to σ H fun x H1 => (∃ a, x = .str a) ∧ te σ H1 fun y H2 => r x [y] H2 Q) : tM1 r to te σ H Q := q
theorem i_bms {T : String} {r : L2.St → V → List V → Hp → VK → Prop} {to : TE} {t : TA} (q : to σ H fun x H1 => tyV K T x H1 ∧ t σ H1 fun xs H2 => r σ x xs H2 Q) : tBMS K T r to t σ H Q := q
/-- isinstance(x, a built-in class) -/
theorem i_isi {x : V} {a b : String} {r : Bool} (ty : TyX K H x (.type a)) (h : kitB a b = some r) (q : Q (.bl r) H) : rIsi K [x, .ty b] H Q := ⟨x, .ty b, .type a, .type b, r, rfl, .ty b, ty, kit_ty h, q⟩
theorem ty_sq {p : Addr} {t : Bool} {xs : List V} (h : H p = some (sq t xs)) : TyX K H (.ref p) (.type (if t then "tuple" else "list")) := by
  cases t with
  | false => exact .base (.lst h)
  | true => exact .base (.tup h)
end
section
variable {K : PySem.W.Frag} {H : Hp} {Q : VK} {A B : Prop}
theorem iteNF (h : A) : if (!false) = true then A else B := by rw [if_pos (by rfl)]; exact h
theorem iteNT (h : B) : if (!true) = true then A else B := by rw [if_neg (by decide)]; exact h
theorem i_isiTL {p tp : Addr} {t : Bool} {xs : List V} (h : H p = some (sq t xs)) (ht : H tp = some (.tup [.ty "tuple", .ty "list"])) (q : Q (.bl true) H) : rIsiT K [.ref p, .ref tp] H Q := by
  refine ⟨.ref p, tp, [.ty "tuple", .ty "list"], .type (if t then "tuple" else "list"), [.type "tuple", .type "list"], true, rfl, ht, .cons (.ty _) (.cons (.ty _) .nil), ty_sq h, ?_, q⟩
  cases t with
  | false => exact kitAny_cons (b := false) (kit_ty (by decide +kernel)) (fun _ => kitAny_cons (b := true) (kit_ty (by decide +kernel)) (fun z => by cases z) fun _ => rfl) fun z => by cases z
  | true => exact kitAny_cons (b := true) (kit_ty (by decide +kernel)) (fun z => by cases z) fun _ => rfl
theorem i_all {a : Addr} {bs : List Bool} {r : Bool} (h : H a = some (.lst (bs.map V.bl))) (e : bs.all id = r) (q : Q (.bl r) H) : rAll K [.ref a] H Q := ⟨a, bs, rfl, SqL.of h, by rw [e]; exact q⟩
theorem i_any {a : Addr} {bs : List Bool} {r : Bool} (h : H a = some (.lst (bs.map V.bl))) (e : bs.any id = r) (q : Q (.bl r) H) : rAny K [.ref a] H Q := ⟨a, bs, rfl, SqL.of h, by rw [e]; exact q⟩
theorem all_rep (n : Nat) : (List.replicate n true).all id = true := by simp
theorem any_rep (n : Nat) : (List.replicate n false).any id = false := by simp
theorem map_rep (n : Nat) (b : Bool) : List.replicate n (V.bl b) = (List.replicate n b).map V.bl := by simp
theorem rep_snoc {α : Type} (n : Nat) (x : α) : List.replicate n x ++ [x] = List.replicate (n + 1) x := by
  rw [List.replicate_succ']
end
abbrev vn (n : Nat) : V := .int (n : Int)
/-- an alphabet's codes -/
structure AlOk (al : List Nat) : Prop where
  pos : 1 ≤ al.length
  le : al.length ≤ 3
  small : ∀ c ∈ al, 97 ≤ c ∧ c ≤ 122
  inc : al.Pairwise (· < ·)
theorem small_mem {c : Nat} (h : 97 ≤ c ∧ c ≤ 122) : c ∈ ("abcdefghijklmnopqrstuvwxyz" : Str).cps.toList := by
  have z : ∀ d : Nat, d < 123 → 97 ≤ d → d ∈ ("abcdefghijklmnopqrstuvwxyz" : Str).cps.toList := by decide +kernel
  exact z c (by omega) h.1
def Ints (T : AS) (H : Hp) (p : Addr) (ns : List Nat) : Prop := ¬ T p ∧ ∃ t, H p = some (sq t (ns.map vn))
def IntsT (T : AS) (H : Hp) (p : Addr) (ns : List Nat) : Prop := ¬ T p ∧ H p = some (.tup (ns.map vn))
theorem IntsT.ints {T : AS} {H : Hp} {p : Addr} {ns : List Nat} (h : IntsT T H p ns) : Ints T H p ns := ⟨h.1, true, h.2⟩
def Rows (T : AS) (H : Hp) (p : Addr) (rs : List (List Nat)) : Prop := ¬ T p ∧ ∃ t as, H p = some (sq t (as.map V.ref)) ∧ Paired (fun a r => Ints T H a r) as rs
def RowsT (T : AS) (H : Hp) (p : Addr) (rs : List (List Nat)) : Prop := ¬ T p ∧ ∃ as, H p = some (.tup (as.map V.ref)) ∧ Paired (fun a r => IntsT T H a r) as rs
theorem RowsT.rows {T : AS} {H : Hp} {p : Addr} {rs : List (List Nat)} (h : RowsT T H p rs) : Rows T H p rs := let ⟨h1, as, h2, h3⟩ := h; ⟨h1, true, as, h2, Paired.mapP h3 fun _ _ z => z.ints⟩
section
variable {T T' : AS} {H H' : Hp} {p : Addr} {ns : List Nat} {rs : List (List Nat)}
theorem Ints.kp (h : Ints T H p ns) (k : Kp T' H H') (i : ∀ b, T' b → T b) : Ints T H' p ns := ⟨h.1, let ⟨t, e⟩ := h.2; ⟨t, k _ _ (fun z => h.1 (i _ z)) e⟩⟩
theorem IntsT.kp (h : IntsT T H p ns) (k : Kp T' H H') (i : ∀ b, T' b → T b) : IntsT T H' p ns := ⟨h.1, k _ _ (fun z => h.1 (i _ z)) h.2⟩
theorem Rows.kp (h : Rows T H p rs) (k : Kp T' H H') (i : ∀ b, T' b → T b) : Rows T H' p rs := let ⟨h1, t, as, h2, h3⟩ := h; ⟨h1, t, as, k _ _ (fun z => h1 (i _ z)) h2, Paired.mapP h3 fun _ _ z => z.kp k i⟩
theorem RowsT.kp (h : RowsT T H p rs) (k : Kp T' H H') (i : ∀ b, T' b → T b) : RowsT T H' p rs := let ⟨h1, as, h2, h3⟩ := h; ⟨h1, as, k _ _ (fun z => h1 (i _ z)) h2, Paired.mapP h3 fun _ _ z => z.kp k i⟩
theorem Ints.weak (h : Ints T H p ns) (i : ∀ b, T' b → T b) : Ints T' H p ns := ⟨fun z => h.1 (i _ z), h.2⟩
theorem IntsT.weak (h : IntsT T H p ns) (i : ∀ b, T' b → T b) : IntsT T' H p ns := ⟨fun z => h.1 (i _ z), h.2⟩
theorem Rows.weak (h : Rows T H p rs) (i : ∀ b, T' b → T b) : Rows T' H p rs := let ⟨h1, t, as, h2, h3⟩ := h; ⟨fun z => h1 (i _ z), t, as, h2, Paired.mapP h3 fun _ _ z => z.weak i⟩
theorem RowsT.weak (h : RowsT T H p rs) (i : ∀ b, T' b → T b) : RowsT T' H p rs := let ⟨h1, as, h2, h3⟩ := h; ⟨fun z => h1 (i _ z), as, h2, Paired.mapP h3 fun _ _ z => z.weak i⟩
theorem map_at {α : Type} {f : α → V} {xs : List α} {i : Nat} {x : α} (h : xs[i]? = some x) : (xs.map f)[i]? = some (f x) := by
  rw [List.getElem?_map, h]
  rfl
theorem at_map {α : Type} {f : α → V} {xs : List α} {i : Nat} {v : V} (h : (xs.map f)[i]? = some v) : ∃ x, xs[i]? = some x ∧ v = f x := by
  rw [List.getElem?_map] at h
  cases e : xs[i]? with
  | none => rw [e] at h; cases h
  | some x => rw [e] at h; exact ⟨x, rfl, (Option.some.inj h).symm⟩
theorem Paired.at1 {α β : Type} {F : α → β → Prop} : ∀ {xs : List α} {ys : List β} {i : Nat} {y : β}, Paired F xs ys → ys[i]? = some y → ∃ x, xs[i]? = some x ∧ F x y
  | _, _, _, _, .nil, h => by simp at h
  | _, _, 0, _, .cons r _, h => ⟨_, rfl, by simp at h; subst h; exact r⟩
  | _, _, i + 1, y, .cons _ t, h => by
    obtain ⟨x, h1, h2⟩ := Paired.at1 (i := i) (y := y) t (by simpa using h)
    exact ⟨x, by simpa using h1, h2⟩
theorem Paired.at0 {α β : Type} {F : α → β → Prop} : ∀ {xs : List α} {ys : List β} {i : Nat} {x : α}, Paired F xs ys → xs[i]? = some x → ∃ y, ys[i]? = some y ∧ F x y
  | _, _, _, _, .nil, h => by simp at h
  | _, _, 0, _, .cons r _, h => ⟨_, rfl, by simp at h; subst h; exact r⟩
  | _, _, i + 1, x, .cons _ t, h => by
    obtain ⟨y, h1, h2⟩ := Paired.at0 (i := i) (x := x) t (by simpa using h)
    exact ⟨y, by simpa using h1, h2⟩
theorem Paired.snoc {α β : Type} {F : α → β → Prop} : ∀ {xs : List α} {ys : List β} {x : α} {y : β}, Paired F xs ys → F x y → Paired F (xs ++ [x]) (ys ++ [y])
  | _, _, _, _, .nil, h => .cons h .nil
  | _, _, _, _, .cons r t, h => .cons r (Paired.snoc t h)
end
section
variable {X : Cx}
theorem ixK (K : PySem.W.Frag) (h : X.K = K) : IxR X (rIx K) := by subst h; exact ix_seq
def rLen (K : PySem.W.Frag) : List V → Hp → VK → Prop := fun xs H Q => ∃ x n, xs = [x] ∧ LenV K x H n ∧ Q (.int (n : Nat)) H
theorem lenK (K : PySem.W.Frag) (h : X.K = K) : CallR X (.builtin "len") (rLen K) := by subst h; exact call_len
theorem isiK (K : PySem.W.Frag) (h : X.K = K) : CallR X (.builtin "isinstance") (rIsi K) := by subst h; exact call_isi
theorem isiTK (K : PySem.W.Frag) (h : X.K = K) : CallR X (.builtin "isinstance") (rIsiT K) := by subst h; exact call_isiT
theorem inK (K : PySem.W.Frag) (h : X.K = K) : OpR X (compareOp .In) (rIn K false) := by subst h; exact op_in_seq
theorem notInK (K : PySem.W.Frag) (h : X.K = K) : OpR X (compareOp .NotIn) (rIn K true) := by subst h; exact op_notIn_seq
theorem eqDK (K : PySem.W.Frag) (h : X.K = K) (hu : X.A.units + 64 < cLine) : OpR X (compareOp .Eq) (rEqD K) := by subst h; exact op_eqD hu
theorem neDK (K : PySem.W.Frag) (h : X.K = K) (hu : X.A.units + 64 < cLine) : OpR X (compareOp .NotEq) (rNeD K) := by subst h; exact op_neD hu
def rListOf (K : PySem.W.Frag) : List V → Hp → VK → Prop := fun xs H Q => ∃ p ys, xs = [.ref p] ∧ (SqL K H p ys ∨ SqT K H p ys) ∧ ∀ l, H l = none → Q (.ref l) (upd H l (.lst ys))
theorem listK (K : PySem.W.Frag) (h : X.K = K) : CallR X (.type "list") (rListOf K) := by subst h; exact call_list_of
def rTupleOf (K : PySem.W.Frag) : List V → Hp → VK → Prop := fun xs H Q => ∃ p ys, xs = [.ref p] ∧ ((SqL K H p ys ∧ ∀ l, H l = none → Q (.ref l) (upd H l (.tup ys))) ∨ (SqT K H p ys ∧ Q (.ref p) H))
theorem tupleK (K : PySem.W.Frag) (h : X.K = K) : CallR X (.type "tuple") (rTupleOf K) := by subst h; exact call_tuple_of
theorem allK (K : PySem.W.Frag) (h : X.K = K) (hc : X.calm = true) : CallR X (.builtin "all") (rAll K) := by subst h; exact cr_all hc
theorem anyK (K : PySem.W.Frag) (h : X.K = K) (hc : X.calm = true) : CallR X (.builtin "any") (rAny K) := by subst h; exact cr_any hc
theorem slTK (K : PySem.W.Frag) (h : X.K = K) : SlR X (rSlA K) := by subst h; exact sl_tupA
theorem slLK (K : PySem.W.Frag) (h : X.K = K) : SlR X (rSlL K) := by subst h; exact sl_list
theorem catAK (K : PySem.W.Frag) (h : X.K = K) : OpR X (binaryOp .Add) (rCatA K) := by subst h; exact op_catA
theorem fldK (K : PySem.W.Frag) (h : X.K = K) {e : Expr} {te : TE} {f : Str} {pos : Pos} (he : PE X e te) (hb : attributeBase e f X.env (eval e X.env) = eval e X.env) : PE X (.Attribute e f pos) (tFld K te f) := by subst h; exact pe_fld he hb
theorem seqK (K : PySem.W.Frag) (h : X.K = K) {tg l : Expr} {tl : TE} (hl : PE X l tl) : PI X tg l (iSeq K tl) := by subst h; exact pi_seq hl
theorem enumRK (K : PySem.W.Frag) (h : X.K = K) {e : Expr} {ta : TA} {p pos tpos : Pos} {elts : List Expr} {kk : Nat} (hg : Gl X "enumerate") (hm : X.mg "enumerate" = none) (ha : PA X [e] ta) (hs : starEach [e] X.env = [(false, eval e X.env)] := by rfl) :
    PI X (.Tuple elts kk tpos) (.Call (.Name "enumerate" p) [e] [] pos) (iEnumR K ta) := by subst h; exact pi_enumR hg hm ha hs
theorem gTupK (K : PySem.W.Frag) (h : X.K = K) {es : List Expr} {k : Nat} {t : TGs} {pos : Pos} (hc : X.calm = true) (hg : PGs X es t) {n : Nat} (hn : PG X (.Tuple es k pos) (gTup X.K n t)) : PG X (.Tuple es k pos) (gTup K n t) := by subst h; exact hn
theorem bmK (K : PySem.W.Frag) (h : X.K = K) {o e : Expr} {es : List Expr} {to : TE} {t : TA} {name : Str} {apos cpos : Pos} {T : String} {r : V → List V → Hp → VK → Prop} (hh : PE X (.Call (.Attribute o name apos) (e :: es) [] cpos) (tBM X.K T r to t)) : PE X (.Call (.Attribute o name apos) (e :: es) [] cpos) (tBM K T r to t) := by subst h; exact hh
def rJoin (K : PySem.W.Frag) : V → List V → Hp → VK → Prop := fun x xs H Q => ∃ a p, ∃ ys : List Str, x = .str a ∧ xs = [.ref p] ∧ (SqL K H p (ys.map V.str) ∨ SqT K H p (ys.map V.str)) ∧ (ys.map (·.length)).sum + ys.length * a.length ≤ 16777216 ∧ Q (.str (Txt.join a ys)) H
theorem joinK (K : PySem.W.Frag) (h : X.K = K) {o e : Expr} {to te : TE} {apos pos : Pos} (ho : PE X o to) (he : PE X e te) (hs : starEach [e] X.env = [(false, eval e X.env)] := by rfl) (hbase : attributeBase o "join" X.env (eval o X.env) = eval o X.env := by rfl) (hline : (apos.endLine == pos.line) = true := by rfl) :
    PE X (.Call (.Attribute o "join" apos) [e] [] pos) (tM1 (rJoin K) to te) := by subst h; exact pe_join ho he hs hbase hline
def rInt1 : List V → Hp → VK → Prop := fun xs H Q => (∃ i, xs = [.int i] ∧ Q (.int i) H) ∨ ∃ k, xs = [.bl k] ∧ Q (.int (if k then 1 else 0)) H
theorem int1 : CallR X (.type "int") rInt1 := call_int1
def rLenN (P : Program) (w : World) : List V → Hp → VK → Prop := fun xs H Q => ∃ d kvs, xs = [V.ref d] ∧ NDict P w H d kvs ∧ Q (.int (kvs.length : Nat)) H
theorem lenNK (P : Program) (w : World) (hp : X.prog = P) (hw : X.w = w) : CallR X (.builtin "len") (rLenN P w) := by subst hp hw; exact call_lenN
def rLenD : List V → Hp → VK → Prop := fun xs H Q => ∃ a kvs, xs = [V.ref a] ∧ H a = some (.dK kvs) ∧ Q (.int (kvs.length : Nat)) H
theorem lenDK : CallR X (.builtin "len") rLenD := call_lenD
end
section
variable {K : PySem.W.Frag} {P : Program} {w : World} {H : Hp} {Q : VK} {σ : L2.St}
theorem i_lenQ {p : Addr} {t : Bool} {xs : List V} (h : H p = some (sq t xs)) (q : Q (.int (xs.length : Nat)) H) : rLen K [.ref p] H Q := ⟨_, _, rfl, lenQ h, q⟩
theorem i_lenL {p : Addr} {xs : List V} (h : H p = some (.lst xs)) (q : Q (.int (xs.length : Nat)) H) : rLen K [.ref p] H Q := ⟨_, _, rfl, lenQ (t := false) h, q⟩
theorem i_lenT {p : Addr} {xs : List V} (h : H p = some (.tup xs)) (q : Q (.int (xs.length : Nat)) H) : rLen K [.ref p] H Q := ⟨_, _, rfl, lenQ (t := true) h, q⟩
theorem i_lenS {z : Str} (h : z.length ≤ sizeLine) (q : Q (.int (z.length : Nat)) H) : rLen K [.str z] H Q := ⟨_, z.length, rfl, ⟨h, rfl⟩, q⟩
theorem i_int1 {i : Int} (q : Q (.int i) H) : rInt1 [.int i] H Q := .inl ⟨i, rfl, q⟩
theorem i_lenN {d : Addr} {kvs : List (NestedKey × V)} (n : NDict P w H d kvs) (q : Q (.int (kvs.length : Nat)) H) : rLenN P w [.ref d] H Q := ⟨d, kvs, rfl, n, q⟩
theorem i_lenD {d : Addr} {kvs : List (Key × V)} (n : H d = some (.dK kvs)) (q : Q (.int (kvs.length : Nat)) H) : rLenD [.ref d] H Q := ⟨d, kvs, rfl, n, q⟩
theorem i_listOf {p : Addr} {t : Bool} {ys : List V} (h : H p = some (sq t ys)) (q : ∀ l, H l = none → Q (.ref l) (upd H l (.lst ys))) : rListOf K [.ref p] H Q := by
  cases t with
  | false => exact ⟨p, ys, rfl, .inl (SqL.of h), q⟩
  | true => exact ⟨p, ys, rfl, .inr (SqT.of h), q⟩
/-- tuple(x): a new tuple, or x itself where x is one -/
theorem i_tupleOf {p : Addr} {t : Bool} {ys : List V} (h : H p = some (sq t ys)) (q : ∀ l H', H' l = some (.tup ys) → Same H H' → (H l = none ∨ (l = p ∧ t = true)) → Q (.ref l) H') : rTupleOf K [.ref p] H Q := by
  cases t with
  | false => exact ⟨p, ys, rfl, .inl ⟨SqL.of h, fun l hl => q l _ upd_same (same_laid hl) (.inl hl)⟩⟩
  | true => exact ⟨p, ys, rfl, .inr ⟨SqT.of h, q p H h (Same.refl H) (.inr ⟨rfl, rfl⟩)⟩⟩
theorem i_tupleOfL {p : Addr} {ys : List V} (h : H p = some (.lst ys)) (q : ∀ l, H l = none → Q (.ref l) (upd H l (.tup ys))) : rTupleOf K [.ref p] H Q := ⟨p, ys, rfl, .inl ⟨SqL.of h, q⟩⟩
theorem iteIN {i : Int} {A B : Prop} (h : B) : if decide (V.int i = V.non) = true then A else B := by
  rw [decide_eq_false (by intro z; cases z), if_neg Bool.false_ne_true]
  exact h
end
theorem i_yes {σ : L2.St} {H : Hp} {QB : Bool → Hp → Prop} (q : QB true H) : tYes σ H QB := q
theorem i_wipe {σ2 w : L2.St} {vs : List Nat} {R : Prop} (e : wipe σ2 vs = w) (r : R) : wipe σ2 vs = w ∧ R := ⟨e, r⟩
theorem upd_lst {H : Hp} {D : Addr} {xs ys zs : List V} (e : ys = zs) : upd (upd H D (.lst xs)) D (.lst ys) = upd H D (.lst zs) := by rw [upd_upd, e]
theorem S_at {al : List Nat} {i : Nat} {c : Nat} (h : al[i]? = some c) : atI (SX.S al).cps.toList (i : Int) = some c := atI_nat (by simpa [SX.S] using h)
theorem szl {n : Nat} (h : n ≤ 16777216) : n ≤ sizeLine := by rw [sizeLine_eq]; exact h
theorem szlt {n : Nat} (h : n < 16777216) : n < sizeLine := by rw [sizeLine_eq]; exact h
theorem ite_t {c : Bool} {A B : Prop} (e : c = true) (h : A) : if c = true then A else B := by subst e; exact iteT h
theorem ite_f {c : Bool} {A B : Prop} (e : c = false) (h : B) : if c = true then A else B := by subst e; exact iteF h
theorem ite_dt {c : Prop} [Decidable c] {A B : Prop} (e : c) (h : A) : if decide c = true then A else B := ite_t (decide_eq_true e) h
theorem ite_df {c : Prop} [Decidable c] {A B : Prop} (e : ¬ c) (h : B) : if decide c = true then A else B := ite_f (decide_eq_false e) h
theorem ite_ndt {c : Prop} [Decidable c] {A B : Prop} (e : ¬ c) (h : A) : if (!decide c) = true then A else B := ite_t (by rw [decide_eq_false e]; rfl) h
theorem ite_ndf {c : Prop} [Decidable c] {A B : Prop} (e : c) (h : B) : if (!decide c) = true then A else B := ite_f (by rw [decide_eq_true e]; rfl) h
/-- the end of a turn that leaves all but the new list -/
theorem lc_turn {H : Hp} {D : Addr} {xs ys : List V} {y : V} {Pv : Hp → Prop} (h : xs.length < 16777216) (e : xs ++ [y] = ys) (q : Pv (upd H D (.lst ys))) :
    ∃ acc, (upd H D (.lst xs)) D = some (.lst acc) ∧ acc.length < sizeLine ∧ Pv (upd (upd H D (.lst xs)) D (.lst (acc ++ [y]))) := ⟨xs, upd_same, szlt h, by rw [upd_upd, e]; exact q⟩
end U
namespace U
open PySem PySem.Spec PyProof.Rows L2
section
variable {α : Type} [DecidableEq α]
def addN (o : List α) (t : α) : List α := if t ∈ o then o else o ++ [t]
def addsN (o ts : List α) : List α := ts.foldl addN o
/-- each one once, by first places -/
def dd (l : List α) : List α := addsN [] l
theorem addsN_nil (o : List α) : addsN o [] = o := rfl
theorem addsN_snoc (o ts : List α) (t : α) : addsN o (ts ++ [t]) = addN (addsN o ts) t := by simp [addsN]
theorem addsN_app (o ts us : List α) : addsN o (ts ++ us) = addsN (addsN o ts) us := by simp [addsN]
theorem dd_snoc (l : List α) (t : α) : dd (l ++ [t]) = addN (dd l) t := addsN_snoc [] l t
theorem mem_addN {o : List α} {t x : α} : x ∈ addN o t ↔ x ∈ o ∨ x = t := by
  unfold addN
  split
  · exact ⟨.inl, fun h => h.elim id fun e => by rw [e]; assumption⟩
  · simp
theorem mem_addsN {o ts : List α} {x : α} : x ∈ addsN o ts ↔ x ∈ o ∨ x ∈ ts := by
  induction ts generalizing o with
  | nil => simp [addsN]
  | cons t ts ih =>
    show x ∈ addsN (addN o t) ts ↔ _
    rw [ih, mem_addN]
    simp [or_assoc]
theorem mem_dd {l : List α} {x : α} : x ∈ dd l ↔ x ∈ l := by
  unfold dd
  rw [mem_addsN]
  simp
theorem nd_addN {o : List α} {t : α} (h : o.Nodup) : (addN o t).Nodup := by
  unfold addN
  split
  · exact h
  · rename_i hn
    rw [List.nodup_append]
    exact ⟨h, by simp, fun a ha b hb e => hn (by rw [← List.mem_singleton.mp hb, ← e]; exact ha)⟩
theorem nd_addsN {o ts : List α} (h : o.Nodup) : (addsN o ts).Nodup := by
  induction ts generalizing o with
  | nil => exact h
  | cons t ts ih => exact ih (nd_addN h)
theorem nd_dd (l : List α) : (dd l).Nodup := nd_addsN List.nodup_nil
theorem addN_pre (o : List α) (t : α) : ∃ m, addN o t = o ++ m := by
  unfold addN
  split
  · exact ⟨[], by simp⟩
  · exact ⟨_, rfl⟩
theorem addsN_pre (o ts : List α) : ∃ m, addsN o ts = o ++ m := by
  induction ts generalizing o with
  | nil => exact ⟨[], by simp [addsN]⟩
  | cons t ts ih =>
    obtain ⟨m1, e1⟩ := addN_pre o t
    obtain ⟨m2, e2⟩ := ih (addN o t)
    exact ⟨m1 ++ m2, by show addsN (addN o t) ts = _; rw [e2, e1, List.append_assoc]⟩
theorem len_addN (o : List α) (t : α) : (addN o t).length ≤ o.length + 1 := by
  unfold addN
  split
  · omega
  · simp
theorem len_addsN (o ts : List α) : (addsN o ts).length ≤ o.length + ts.length := by
  induction ts generalizing o with
  | nil => simp [addsN]
  | cons t ts ih =>
    have h1 := ih (addN o t)
    have h2 := len_addN o t
    show (addsN (addN o t) ts).length ≤ _
    rw [List.length_cons]
    omega
theorem len_dd (l : List α) : (dd l).length ≤ l.length := by
  have := len_addsN [] l
  simpa [dd] using this
/-- the number of x by first places -/
def pl (l : List α) (x : α) : Nat := l.idxOf x
theorem pl_snoc_in {l : List α} {t x : α} (h : x ∈ l) : pl (l ++ [t]) x = pl l x := by
  unfold pl
  rw [List.idxOf_append, if_pos h]
theorem pl_snoc_new {l : List α} {t : α} (h : t ∉ l) : pl (l ++ [t]) t = l.length := by
  unfold pl
  rw [List.idxOf_append, if_neg h]
  simp
theorem pl_addN {l : List α} {t x : α} (h : x ∈ l) : pl (addN l t) x = pl l x := by
  unfold addN
  split
  · rfl
  · exact pl_snoc_in h
theorem pl_lt {l : List α} {x : α} (h : x ∈ l) : pl l x < l.length := List.idxOf_lt_length_of_mem h
theorem pl_at {l : List α} {x : α} (h : x ∈ l) : l[pl l x]? = some x := by
  unfold pl
  rw [List.getElem?_eq_getElem (List.idxOf_lt_length_of_mem h), List.getElem_idxOf]
end
abbrev Rws := List (List Nat)
def row (rs : Rws) (p : Nat) : List Nat := rs.getD p []
/-- where the letter a leads from p -/
def stp (rs : Rws) (p a : Nat) : Nat := (row rs p).getD a 0
def run (rs : Rws) (p : Nat) (w : List Nat) : Nat := w.foldl (stp rs) p
structure WFB (m : Nat) (rs : Rws) : Prop where
  pos : 0 < rs.length
  le : rs.length ≤ 4000
  m3 : m ≤ 3
  wid : ∀ r ∈ rs, r.length = m
  lt : ∀ r ∈ rs, ∀ t ∈ r, t < rs.length
structure GOK (n : Nat) (gd : List Nat) : Prop where
  inc : gd.Pairwise (· < ·)
  lt : ∀ x ∈ gd, x < n
theorem row_at {rs : Rws} {p : Nat} (h : p < rs.length) : rs[p]? = some (row rs p) := by
  unfold row
  rw [List.getD_eq_getElem?_getD, List.getElem?_eq_getElem h]
  rfl
theorem WFB.row_mem {m : Nat} {rs : Rws} (_ : WFB m rs) {p : Nat} (h : p < rs.length) : row rs p ∈ rs := by
  have := row_at h
  exact List.mem_of_getElem? this
theorem WFB.row_len {m : Nat} {rs : Rws} (w : WFB m rs) {p : Nat} (h : p < rs.length) : (row rs p).length = m := w.wid _ (w.row_mem h)
theorem WFB.row_lt {m : Nat} {rs : Rws} (w : WFB m rs) {p t : Nat} (h : p < rs.length) (ht : t ∈ row rs p) : t < rs.length := w.lt _ (w.row_mem h) t ht
theorem WFB.stp_at {m : Nat} {rs : Rws} (w : WFB m rs) {p a : Nat} (h : p < rs.length) (ha : a < m) : (row rs p)[a]? = some (stp rs p a) := by
  unfold stp
  rw [List.getD_eq_getElem?_getD, List.getElem?_eq_getElem (by rw [w.row_len h]; exact ha)]
  rfl
theorem WFB.stp_lt {m : Nat} {rs : Rws} (w : WFB m rs) {p a : Nat} (h : p < rs.length) (ha : a < m) : stp rs p a < rs.length := w.row_lt h (List.mem_of_getElem? (w.stp_at h ha))
theorem WFB.run_lt {m : Nat} {rs : Rws} (w : WFB m rs) : ∀ {l : List Nat} {p : Nat}, p < rs.length → (∀ a ∈ l, a < m) → run rs p l < rs.length
  | [], _, h, _ => h
  | a :: l, p, h, hl => by
    show run rs (stp rs p a) l < _
    exact w.run_lt (w.stp_lt h (hl a (List.mem_cons_self ..))) fun b hb => hl b (List.mem_cons_of_mem _ hb)
theorem run_snoc (rs : Rws) (p : Nat) (l : List Nat) (a : Nat) : run rs p (l ++ [a]) = stp rs (run rs p l) a := by simp [run]
theorem run_app (rs : Rws) (p : Nat) (l k : List Nat) : run rs p (l ++ k) = run rs (run rs p l) k := by simp [run]
/-- the rooms found, k of them gone through -/
def scanAt (rs : Rws) : Nat → List Nat
  | 0 => [0]
  | k + 1 => addsN (scanAt rs k) (row rs ((scanAt rs k).getD k 0))
theorem scan_nd (rs : Rws) : ∀ k, (scanAt rs k).Nodup
  | 0 => by simp [scanAt]
  | k + 1 => nd_addsN (scan_nd rs k)
theorem WFB.scan_lt {m : Nat} {rs : Rws} (w : WFB m rs) : ∀ k, ∀ x ∈ scanAt rs k, x < rs.length
  | 0, x, h => by
    rw [List.mem_singleton.mp h]
    exact w.pos
  | k + 1, x, h => by
    rcases mem_addsN.mp h with h | h
    · exact w.scan_lt k x h
    · refine w.row_lt ?_ h
      rw [List.getD_eq_getElem?_getD]
      cases e : (scanAt rs k)[k]? with
      | none => exact w.pos
      | some y => exact w.scan_lt k y (List.mem_of_getElem? e)
theorem nodup_sub {α : Type} [DecidableEq α] : ∀ {l k : List α}, l.Nodup → (∀ x ∈ l, x ∈ k) → l.length ≤ k.length
  | [], _, _, _ => by simp
  | a :: l, k, h, hl => by
    obtain ⟨h1, h2⟩ := List.nodup_cons.mp h
    have ha := hl a (List.mem_cons_self ..)
    have z := nodup_sub (k := k.erase a) h2 fun x hx => (List.mem_erase_of_ne (fun (e : x = a) => h1 (by rw [← e]; exact hx))).mpr (hl x (List.mem_cons_of_mem _ hx))
    rw [List.length_erase_of_mem ha] at z
    have hp := List.length_pos_of_mem ha
    rw [List.length_cons]
    omega
theorem nodup_le {l : List Nat} {n : Nat} (h : l.Nodup) (hl : ∀ x ∈ l, x < n) : l.length ≤ n := by
  have h1 := nodup_sub (k := List.range n) h fun x hx => List.mem_range.mpr (hl x hx)
  simpa using h1
theorem rev_ind {α : Type} {P : List α → Prop} (h0 : P []) (hs : ∀ l x, P l → P (l ++ [x])) (l : List α) : P l := by
  have z : ∀ k : List α, P k.reverse := fun k => by
    induction k with
    | nil => exact h0
    | cons a k ih =>
      rw [List.reverse_cons]
      exact hs _ _ ih
  have := z l.reverse
  rwa [List.reverse_reverse] at this
theorem WFB.scan_len {m : Nat} {rs : Rws} (w : WFB m rs) (k : Nat) : (scanAt rs k).length ≤ rs.length := nodup_le (scan_nd rs k) (w.scan_lt k)
theorem scan0 (rs : Rws) : ∀ k, (scanAt rs k)[0]? = some 0
  | 0 => rfl
  | k + 1 => by
    obtain ⟨m, e⟩ := addsN_pre (scanAt rs k) (row rs ((scanAt rs k).getD k 0))
    show (addsN _ _)[0]? = _
    rw [e]
    have h := scan0 rs k
    obtain ⟨hlt, _⟩ := List.getElem?_eq_some_iff.mp h
    rw [List.getElem?_append_left hlt]
    exact h
theorem scan_pos (rs : Rws) (k : Nat) : 0 < (scanAt rs k).length := (List.getElem?_eq_some_iff.mp (scan0 rs k)).1
/-- a machine of at most 60 rooms -/
structure WF (m : Nat) (rs : Rws) : Prop where
  b : WFB m rs
  le : rs.length ≤ 60
instance {m : Nat} {rs : Rws} : Coe (WF m rs) (WFB m rs) := ⟨WF.b⟩
section
variable {m : Nat} {rs : Rws} (w : WF m rs)
include w
theorem WF.pos : 0 < rs.length := w.b.pos
theorem WF.m3 : m ≤ 3 := w.b.m3
theorem WF.wid : ∀ r ∈ rs, r.length = m := w.b.wid
theorem WF.lt : ∀ r ∈ rs, ∀ t ∈ r, t < rs.length := w.b.lt
theorem WF.row_mem {p : Nat} (h : p < rs.length) : row rs p ∈ rs := w.b.row_mem h
theorem WF.row_len {p : Nat} (h : p < rs.length) : (row rs p).length = m := w.b.row_len h
theorem WF.row_lt {p t : Nat} (h : p < rs.length) (ht : t ∈ row rs p) : t < rs.length := w.b.row_lt h ht
theorem WF.stp_at {p a : Nat} (h : p < rs.length) (ha : a < m) : (row rs p)[a]? = some (stp rs p a) := w.b.stp_at h ha
theorem WF.stp_lt {p a : Nat} (h : p < rs.length) (ha : a < m) : stp rs p a < rs.length := w.b.stp_lt h ha
theorem WF.run_lt {l : List Nat} {p : Nat} (h : p < rs.length) (hl : ∀ a ∈ l, a < m) : run rs p l < rs.length := w.b.run_lt h hl
theorem WF.scan_lt (k : Nat) : ∀ x ∈ scanAt rs k, x < rs.length := w.b.scan_lt k
theorem WF.scan_len (k : Nat) : (scanAt rs k).length ≤ rs.length := w.b.scan_len k
end
theorem WF.of {m : Nat} {rs : Rws} (pos : 0 < rs.length) (le : rs.length ≤ 60) (m3 : m ≤ 3) (wid : ∀ r ∈ rs, r.length = m) (lt : ∀ r ∈ rs, ∀ t ∈ r, t < rs.length) : WF m rs := ⟨⟨pos, by omega, m3, wid, lt⟩, le⟩
def num {α : Type} [DecidableEq α] (rooms : List Nat) (sig : Nat → α) (r : Nat) : Nat := pl (dd (rooms.map sig)) (sig r)
def cnt {α : Type} [DecidableEq α] (rooms : List Nat) (sig : Nat → α) : Nat := (dd (rooms.map sig)).length
def nkB (b : Bool) : NestedKey := .num (if b = true then 1 else 0)
def nkN (n : Nat) : NestedKey := .num (n : Int)
mutual
/-- what a room shows in round k -/
def sigA (rs : Rws) (mk : Nat → Bool) (rooms : List Nat) : Nat → Nat → NestedKey
  | 0, r => .tup [nkB (mk r)]
  | k + 1, r => .tup [nkN (clsA rs mk rooms k r), .tup ((row rs r).map fun t => nkN (clsA rs mk rooms k t))]
/-- its class behind round k -/
def clsA (rs : Rws) (mk : Nat → Bool) (rooms : List Nat) : Nat → Nat → Nat
  | 0, r => pl (dd (rooms.map fun r => NestedKey.tup [nkB (mk r)])) (.tup [nkB (mk r)])
  | k + 1, r => pl (dd (rooms.map fun r => NestedKey.tup [nkN (clsA rs mk rooms k r), .tup ((row rs r).map fun t => nkN (clsA rs mk rooms k t))])) (.tup [nkN (clsA rs mk rooms k r), .tup ((row rs r).map fun t => nkN (clsA rs mk rooms k t))])
end
theorem clsA_eq (rs : Rws) (mk : Nat → Bool) (rooms : List Nat) (k : Nat) (r : Nat) : clsA rs mk rooms k r = num rooms (sigA rs mk rooms k) r := by
  cases k with
  | zero => simp only [clsA, num, sigA]; rfl
  | succ k => simp only [clsA, num, sigA]; rfl
/-- one room of each class, the first -/
def headsOf (rooms : List Nat) (g : Nat → Nat) : List Nat := rooms.foldl (fun hs r => if g r ∈ hs.map g then hs else hs ++ [r]) []
theorem headsOf_snoc (rooms : List Nat) (g : Nat → Nat) (r : Nat) : headsOf (rooms ++ [r]) g = if g r ∈ (headsOf rooms g).map g then headsOf rooms g else headsOf rooms g ++ [r] := by simp [headsOf]
theorem heads_map (g : Nat → Nat) (rooms : List Nat) : (headsOf rooms g).map g = dd (rooms.map g) := by
  induction rooms using rev_ind with
  | h0 => rfl
  | hs l r ih =>
    rw [headsOf_snoc, List.map_append, List.map_singleton, dd_snoc, ← ih]
    unfold addN
    split
    · rfl
    · rw [List.map_append]
      rfl
theorem heads_mem {g : Nat → Nat} {rooms : List Nat} {x : Nat} (h : x ∈ headsOf rooms g) : x ∈ rooms := by
  induction rooms using rev_ind with
  | h0 => cases h
  | hs l r ih =>
    rw [headsOf_snoc] at h
    split at h
    · exact List.mem_append_left _ (ih h)
    · rcases List.mem_append.mp h with h | h
      · exact List.mem_append_left _ (ih h)
      · exact List.mem_append_right _ h
theorem heads_len (g : Nat → Nat) (rooms : List Nat) : (headsOf rooms g).length = (dd (rooms.map g)).length := by rw [← heads_map, List.length_map]
/-- the least table by classes g -/
def lrows (rs : Rws) (rooms : List Nat) (g : Nat → Nat) : Rws := (headsOf rooms g).map fun h => (row rs h).map (num rooms g)
def lmarks (mk : Nat → Bool) (rooms : List Nat) (g : Nat → Nat) : List Bool := (headsOf rooms g).map mk
theorem take_at {α : Type} {l : List α} {j : Nat} {u : α} (h : l[j]? = some u) : l.take (j + 1) = l.take j ++ [u] := by
  rw [List.take_add_one, h]
  rfl
/-- the word w in letters of al -/
def Word (al : List Nat) (w z : List Nat) : Prop := (∀ a ∈ w, a < al.length) ∧ z = w.map fun a => al.getD a 0
def mapK (l : List Nat) (f : Nat → V) : List (Key × V) := l.map fun (n : Nat) => ((Sum.inl (n : Int) : Key), f n)
theorem valV_mapK (f : Nat → V) (n : Nat) : ∀ l : List Nat, valV (mapK l f) (Sum.inl (n : Int)) = if n ∈ l then some (f n) else none
  | [] => rfl
  | a :: l => by
    by_cases e : a = n
    · subst e
      rw [if_pos (List.mem_cons_self ..)]
      exact valV_pos (p := ((Sum.inl (a : Int) : Key), f a)) rfl
    · have z : ¬ ((Sum.inl (a : Int) : Key), f a).1 = Sum.inl (n : Int) := fun h => e (by
        have := Sum.inl.inj h
        omega)
      show valV (((Sum.inl (a : Int) : Key), f a) :: mapK l f) _ = _
      rw [valV_neg z, valV_mapK f n l]
      have e' : n ∈ a :: l ↔ n ∈ l := by
        rw [List.mem_cons]
        exact ⟨fun h => h.elim (fun z => (e z.symm).elim) id, .inr⟩
      simp only [e']
theorem valV_mapK_in {f : Nat → V} {n : Nat} {l : List Nat} (h : n ∈ l) : valV (mapK l f) (Sum.inl (n : Int)) = some (f n) := by rw [valV_mapK, if_pos h]
theorem valV_mapK_no {f : Nat → V} {n : Nat} {l : List Nat} (h : n ∉ l) : valV (mapK l f) (Sum.inl (n : Int)) = none := by rw [valV_mapK, if_neg h]
theorem putK_mapK {f : Nat → V} {n : Nat} {l : List Nat} {v : V} (h : n ∉ l) (e : v = f n) : putK (mapK l f) (Sum.inl (n : Int)) v = mapK (l ++ [n]) f := by
  subst e
  rw [putK_new _ (valV_mapK_no h)]
  simp [mapK]
theorem mapK_congr {f g : Nat → V} {l : List Nat} (h : ∀ x ∈ l, f x = g x) : mapK l f = mapK l g := by
  unfold mapK
  exact List.map_congr_left fun x hx => by rw [h x hx]
theorem mapK_len (l : List Nat) (f : Nat → V) : (mapK l f).length = l.length := by simp [mapK]
def mapN (l : List NestedKey) (f : NestedKey → V) : List (NestedKey × V) := l.map fun k => (k, f k)
theorem lookN_mapN (f : NestedKey → V) (n : NestedKey) : ∀ l : List NestedKey, lookN (mapN l f) n = if n ∈ l then some (f n) else none
  | [] => rfl
  | a :: l => by
    show lookN ((a, f a) :: mapN l f) n = _
    unfold lookN
    rw [List.find?_cons]
    by_cases e : a = n
    · subst e
      simp
    · have e' : n ∈ a :: l ↔ n ∈ l := by
        rw [List.mem_cons]
        exact ⟨fun h => h.elim (fun z => (e z.symm).elim) id, .inr⟩
      have ih := lookN_mapN f n l
      unfold lookN at ih
      simp only [e, e', decide_false]
      exact ih
theorem lookN_in {f : NestedKey → V} {n : NestedKey} {l : List NestedKey} (h : n ∈ l) : lookN (mapN l f) n = some (f n) := by rw [lookN_mapN, if_pos h]
theorem lookN_no {f : NestedKey → V} {n : NestedKey} {l : List NestedKey} (h : n ∉ l) : lookN (mapN l f) n = none := by rw [lookN_mapN, if_neg h]
theorem putN_mapN {f : NestedKey → V} {n : NestedKey} {l : List NestedKey} {v : V} (h : n ∉ l) (e : v = f n) : putN (mapN l f) n v = mapN (l ++ [n]) f := by
  subst e
  unfold putN
  rw [lookN_no h, if_neg (by decide)]
  simp [mapN]
theorem mapN_congr {f g : NestedKey → V} {l : List NestedKey} (h : ∀ x ∈ l, f x = g x) : mapN l f = mapN l g := by
  unfold mapN
  exact List.map_congr_left fun x hx => by rw [h x hx]
theorem mapN_len (l : List NestedKey) (f : NestedKey → V) : (mapN l f).length = l.length := by simp [mapN]
/-- numbers by first places -/
def numD {α : Type} [DecidableEq α] (l : List α) (x : α) : V := vn (pl l x)
end U
namespace U
open PySem PySem.Spec PyProof.Rows L2 C8
section
variable {K : PySem.W.Frag} {P : Program} {w : World} {D : Ends} {σ : L2.St} {H : Hp} {Q : VK} {td ty tv te tk : TE}
def RDGet (x y : V) (H : Hp) (Q : VK) : Prop := ∃ a v, x = .ref a ∧ DGet H a y (some v) ∧ Q v H
theorem i_dget (q : td σ H fun x H1 => ty σ H1 fun y H2 => RDGet x y H2 Q) : tDGet td ty σ H Q := q
theorem r_dget {a : Addr} {kvs : List (Key × V)} {i : Int} {v : V} (h : H a = some (.dK kvs)) (e : valV kvs (Sum.inl i) = some v) (q : Q v H) : RDGet (.ref a) (.int i) H Q := ⟨a, v, rfl, by rw [← e]; exact DGet.k (k := Sum.inl i) h, q⟩
def RDIn (x y : V) (H : Hp) (Q : VK) : Prop := ∃ a o, x = .ref a ∧ DGet H a y o ∧ Q (.bl o.isSome) H
theorem i_din (q : ty σ H fun y H1 => td σ H1 fun x H2 => RDIn x y H2 Q) : tDIn ty td σ H Q := q
theorem r_din {a : Addr} {kvs : List (Key × V)} {i : Int} (h : H a = some (.dK kvs)) (q : Q (.bl (valV kvs (Sum.inl i)).isSome) H) : RDIn (.ref a) (.int i) H Q := ⟨a, _, rfl, DGet.k (k := Sum.inl i) h, q⟩
def RDNotIn (x y : V) (H : Hp) (Q : VK) : Prop := ∃ a o, x = .ref a ∧ DGet H a y o ∧ Q (.bl (!o.isSome)) H
theorem i_dnotin (q : ty σ H fun y H1 => td σ H1 fun x H2 => RDNotIn x y H2 Q) : tDNotIn ty td σ H Q := q
theorem r_dnotin {a : Addr} {kvs : List (Key × V)} {i : Int} (h : H a = some (.dK kvs)) (q : Q (.bl (!(valV kvs (Sum.inl i)).isSome)) H) : RDNotIn (.ref a) (.int i) H Q := ⟨a, _, rfl, DGet.k (k := Sum.inl i) h, q⟩
def RDPut (x y v : V) (H : Hp) (Q : Hp → Prop) : Prop := ∃ a H4, x = .ref a ∧ DPut H a y v H4 ∧ Q H4
theorem i_dput (q : tv σ H fun v H1 => td σ H1 fun x H2 => ty σ H2 fun y H3 => RDPut x y v H3 fun H4 => D.nx σ H4) : sDPut td ty tv D σ H := q
theorem r_dput {a : Addr} {kvs : List (Key × V)} {i : Int} {v : V} {Q : Hp → Prop} (h : H a = some (.dK kvs)) (hl : kvs.length < 16777216) (q : Q (upd H a (.dK (putK kvs (Sum.inl i) v)))) : RDPut (.ref a) (.int i) v H Q := ⟨a, _, rfl, DPut.k (k := Sum.inl i) h (szlt hl), q⟩
theorem i_dnewK (q : ∀ p, H p = none → Q (.ref p) (upd H p (.dK []))) : tDNewK σ H Q := q
/-- {k: v}, k a whole number, v no object of its own -/
theorem i_disp1 {i : Int} {v : V} (q : ∀ p, H p = none → Q (.ref p) (upd H p (.dK [(Sum.inl i, v)]))) : tDisp [(tC (.int i), tC v)] σ H Q := fun p hp => ⟨upd_same, [(Sum.inl i, v)], rfl, by show 1 ≤ 15; decide, by
  rw [upd_upd]
  exact q p hp⟩
def RNGet (P : Program) (w : World) (x y : V) (H : Hp) (Q : VK) : Prop := ∃ d k kvs v, x = .ref d ∧ NDict P w H d kvs ∧ KeyAt H k y ∧ lookN kvs k = some v ∧ Q v H
theorem i_nget (q : td σ H fun x H1 => ty σ H1 fun y H2 => RNGet P w x y H2 Q) : tNGet P w td ty σ H Q := q
def RNIn (P : Program) (w : World) (x y : V) (H : Hp) (Q : VK) : Prop := ∃ d k kvs, x = .ref d ∧ NDict P w H d kvs ∧ KeyAt H k y ∧ Q (.bl (lookN kvs k).isSome) H
theorem i_nin (q : ty σ H fun y H1 => td σ H1 fun x H2 => RNIn P w x y H2 Q) : tNIn P w ty td σ H Q := q
def RNNotIn (P : Program) (w : World) (x y : V) (H : Hp) (Q : VK) : Prop := ∃ d k kvs, x = .ref d ∧ NDict P w H d kvs ∧ KeyAt H k y ∧ Q (.bl (!(lookN kvs k).isSome)) H
theorem i_nnotin (q : ty σ H fun y H1 => td σ H1 fun x H2 => RNNotIn P w x y H2 Q) : tNNotIn P w ty td σ H Q := q
def RNPut (P : Program) (w : World) (x y v : V) (H : Hp) (Q : Hp → Prop) : Prop := ∃ d k kvs, x = .ref d ∧ NDict P w H d kvs ∧ KeyAt H k y ∧ kvs.length < sizeLine ∧ ∀ o, NDict P w (upd H d o) d (putN kvs k v) → Q (upd H d o)
theorem i_nput (q : tv σ H fun v H1 => td σ H1 fun x H2 => ty σ H2 fun y H3 => RNPut P w x y v H3 fun H4 => D.nx σ H4) : sNPut P w td ty tv D σ H := q
theorem i_dnewN (q : ∀ p o, H p = none → NDict P w (upd H p o) p [] → Q (.ref p) (upd H p o)) : tNNew P w σ H Q := q
end
section
variable {K : PySem.W.Frag} {D : Ends} {σ : L2.St} {H : Hp} {ta tv : TE} {f : Str}
def RFld (K : PySem.W.Frag) (f : Str) (x y : V) (H : Hp) (R : Hp → Prop) : Prop := ∃ a C dx fs, x = .ref a ∧ H a = some (.ins C dx fs) ∧ Cls K C ∧ NoAttr K C f ∧ fs.length < 1000 ∧ R (upd H a (.ins C dx (putF f y fs)))
theorem i_sfld (q : tv σ H fun y H1 => ta σ H1 fun x H2 => RFld K f x y H2 fun H3 => D.nx σ H3) : sFld K ta tv f D σ H := q
theorem r_fld {a C dx : Addr} {fs : List (Str × V)} {y : V} {R : Hp → Prop} (h : H a = some (.ins C dx fs)) (c : Cls K C) (n : NoAttr K C f) (hl : fs.length < 1000) (q : R (upd H a (.ins C dx (putF f y fs)))) : RFld K f (.ref a) y H R := ⟨a, C, dx, fs, rfl, h, c, n, hl, q⟩
theorem Kp.at {H : Hp} {p : Addr} {o : HO} : Kp (fun b => b = p) H (upd H p o) := Kp.wrote rfl
end
section
variable {D : Ends} {σ : L2.St} {H : Hp} {c : TT} {tb : TS}
def WhT (n : Nat) (Pv : Nat → L2.St → Hp → Prop) (tb : TS) (D : Ends) (k : Nat) (σ : L2.St) (H : Hp) : Prop := ∃ N : L2.St → Hp → Prop, (∀ σ' H', N σ' H' → ∃ m', m' < n - k ∧ ∃ j, m' = n - j ∧ Pv j σ' H') ∧ tb { D with nx := N, ct := N, bk := D.nx } σ H
theorem whT {n k : Nat} {Pv : Nat → L2.St → Hp → Prop} (h : k < n) (q : tb { D with nx := Pv (k + 1), ct := Pv (k + 1), bk := D.nx } σ H) : WhT n Pv tb D k σ H := ⟨Pv (k + 1), fun σ' H' p => ⟨n - (k + 1), by omega, k + 1, rfl, p⟩, q⟩
theorem i_while (n : Nat) (Pv : Nat → L2.St → Hp → Prop) (h0 : Pv 0 σ H) (hs : ∀ k σ H, Pv k σ H → c σ H fun b H1 => if b = true then WhT n Pv tb D k σ H1 else D.nx σ H1) : tWhile c tb D σ H := by
  refine ⟨fun m σ H => ∃ k, m = n - k ∧ Pv k σ H, ⟨_, 0, rfl, h0⟩, ?_⟩
  rintro m σ H ⟨k, rfl, p⟩
  exact hs k σ H p
end
theorem upd_comm {H : Hp} {a b : Addr} {x y : HO} (h : a ≠ b) : upd (upd H a x) b y = upd (upd H b y) a x := by
  funext c
  by_cases e : c = a
  · subst e
    rw [upd_ne h, upd_same, upd_same]
  · by_cases e' : c = b
    · subst e'
      rw [upd_same, upd_ne e, upd_same]
    · rw [upd_ne e', upd_ne e, upd_ne e, upd_ne e']
theorem upd_swap {H : Hp} {a b : Addr} {x y z : HO} (h : a ≠ b) : upd (upd (upd H a x) b y) a z = upd (upd H a z) b y := by
  rw [upd_comm (H := upd H a x) h.symm, upd_upd]
theorem upd2 {H : Hp} {a b : Addr} {x y z u : HO} (h : a ≠ b) : upd (upd (upd (upd H a x) b y) a z) b u = upd (upd H a z) b u := by
  rw [upd_swap h, upd_upd]
section
variable {T : AS} {H : Hp} {p : Addr} {rs : Rws} {m : Nat}
theorem Rows.at {r : Nat} (h : Rows T H p rs) (hr : r < rs.length) : ∃ t vs a, H p = some (sq t vs) ∧ vs.length = rs.length ∧ atI vs (r : Int) = some (.ref a) ∧ Ints T H a (row rs r) := by
  obtain ⟨_, t, as, h2, h3⟩ := h
  obtain ⟨a, ha, hi⟩ := Paired.at1 h3 (row_at hr)
  exact ⟨t, as.map .ref, a, h2, by rw [List.length_map, h3.length], atI_nat (map_at ha), hi⟩
theorem RowsT.at {r : Nat} (h : RowsT T H p rs) (hr : r < rs.length) : ∃ vs a, H p = some (.tup vs) ∧ vs.length = rs.length ∧ atI vs (r : Int) = some (.ref a) ∧ IntsT T H a (row rs r) := by
  obtain ⟨_, as, h2, h3⟩ := h
  obtain ⟨a, ha, hi⟩ := Paired.at1 h3 (row_at hr)
  exact ⟨as.map .ref, a, h2, by rw [List.length_map, h3.length], atI_nat (map_at ha), hi⟩
theorem Rows.len (h : Rows T H p rs) : ∃ t vs, H p = some (sq t vs) ∧ vs.length = rs.length := by
  obtain ⟨_, t, as, h2, h3⟩ := h
  exact ⟨t, as.map .ref, h2, by rw [List.length_map, h3.length]⟩
theorem RowsT.len (h : RowsT T H p rs) : ∃ vs, H p = some (.tup vs) ∧ vs.length = rs.length := by
  obtain ⟨_, as, h2, h3⟩ := h
  exact ⟨as.map .ref, h2, by rw [List.length_map, h3.length]⟩
theorem vn_at {ns : List Nat} {i n : Nat} (h : ns[i]? = some n) : atI (ns.map vn) (i : Int) = some (.int (n : Int)) := atI_nat (map_at h)
/-- what is laid anew is not among T -/
def TO (T : AS) (H : Hp) : Prop := ∀ b, T b → Old H b
theorem TO.new (t : TO T H) {p : Addr} (h : H p = none) : ¬ T p := fun z => Old.none h (t p z)
theorem TO.same {H' : Hp} (t : TO T H) (s : Same H H') : TO T H' := fun b hb => let ⟨o, e⟩ := t b hb; ⟨o, s _ _ e⟩
theorem Srcs.to {S : AS} (s : Srcs S H) : TO S H := fun _ h => s.old h
theorem Ints.same {H' : Hp} {ns : List Nat} (h : Ints T H p ns) (s : Same H H') : Ints T H' p ns := h.kp (T' := fun _ => False) (.of_same s) (fun _ z => z.elim)
theorem IntsT.same {H' : Hp} {ns : List Nat} (h : IntsT T H p ns) (s : Same H H') : IntsT T H' p ns := h.kp (T' := fun _ => False) (.of_same s) (fun _ z => z.elim)
theorem Rows.same {H' : Hp} (h : Rows T H p rs) (s : Same H H') : Rows T H' p rs := h.kp (T' := fun _ => False) (.of_same s) (fun _ z => z.elim)
theorem RowsT.same {H' : Hp} (h : RowsT T H p rs) (s : Same H H') : RowsT T H' p rs := h.kp (T' := fun _ => False) (.of_same s) (fun _ z => z.elim)
/-- an object is none of the data -/
theorem Ints.ins {q C dx : Addr} {fs : List (Str × V)} {ns : List Nat} (h : Ints T H p ns) (e : H q = some (.ins C dx fs)) : Ints (fun b => T b ∨ b = q) H p ns := ⟨fun z => z.elim h.1 fun z => by
  obtain ⟨t, e'⟩ := h.2
  rw [z, e] at e'
  (cases t with | true => cases e' | false => cases e'), h.2⟩
theorem IntsT.ins {q C dx : Addr} {fs : List (Str × V)} {ns : List Nat} (h : IntsT T H p ns) (e : H q = some (.ins C dx fs)) : IntsT (fun b => T b ∨ b = q) H p ns := ⟨fun z => z.elim h.1 fun z => by
  have e' := h.2
  rw [z, e] at e'
  (cases e'), h.2⟩
theorem Rows.ins {q C dx : Addr} {fs : List (Str × V)} (h : Rows T H p rs) (e : H q = some (.ins C dx fs)) : Rows (fun b => T b ∨ b = q) H p rs := by
  obtain ⟨h1, t, as, h2, h3⟩ := h
  refine ⟨fun z => z.elim h1 fun z => ?_, t, as, h2, Paired.mapP h3 fun _ _ z => z.ins e⟩
  rw [z, e] at h2
  (cases t with | true => cases h2 | false => cases h2)
theorem RowsT.ins {q C dx : Addr} {fs : List (Str × V)} (h : RowsT T H p rs) (e : H q = some (.ins C dx fs)) : RowsT (fun b => T b ∨ b = q) H p rs := by
  obtain ⟨h1, as, h2, h3⟩ := h
  refine ⟨fun z => z.elim h1 fun z => ?_, as, h2, Paired.mapP h3 fun _ _ z => z.ins e⟩
  rw [z, e] at h2
  cases h2
end
theorem nk_ints {H : Hp} : ∀ ns : List Nat, NKs' H (ns.map nkN) (ns.map vn)
  | [] => .nil
  | n :: ns => .cons (.int _) (nk_ints ns)
theorem nk_depth : ∀ ns : List Nat, NestedKey.depthAll (ns.map nkN) = 0
  | [] => by simp [NestedKey.depthAll]
  | n :: ns => by
    simp only [List.map_cons, NestedKey.depthAll, nk_depth ns]
    simp [nkN, NestedKey.depth]
theorem occ_at {al : List Nat} {k c : Nat} (hn : al.Nodup) (h : al[k]? = some c) : ∃ rest, Builtin.Str.occurrences (SX.S al) (⟨#[c]⟩ : Str) 0 (SX.S al).length 1 = k :: rest := by
  have hf := SX.in_one al c
  have hm : c ∈ al := List.mem_of_getElem? h
  rw [decide_eq_true hm] at hf
  have e1 : (SX.S [c]) = (⟨#[c]⟩ : Str) := rfl
  rw [e1] at hf
  obtain ⟨f, ch⟩ := StrLaws.occ_chain (SX.S al) (⟨#[c]⟩ : Str) 1
  cases q : Builtin.Str.occurrences (SX.S al) (⟨#[c]⟩ : Str) 0 (SX.S al).length 1 with
  | nil => rw [q] at hf; cases hf
  | cons i rest =>
    rw [q] at ch
    have hA : (SX.S al).cps.toList[i]? = some c := (StrLaws.subAt_one (SX.S al) c i).mp ch.2.1
    have hA' : al[i]? = some c := by simpa [SX.S] using hA
    have e : i = k := by
      obtain ⟨h1, h2⟩ := List.getElem?_eq_some_iff.mp hA'
      obtain ⟨h3, h4⟩ := List.getElem?_eq_some_iff.mp h
      have pw := List.pairwise_iff_getElem.mp hn
      rcases Nat.lt_trichotomy i k with z | z | z
      · exact (pw i k h1 h3 z (h2.trans h4.symm)).elim
      · exact z
      · exact (pw k i h3 h1 z (h4.trans h2.symm)).elim
    exact ⟨rest, by rw [e]⟩
def rSIdx : V → List V → Hp → VK → Prop := fun x xs H Q => ∃ a b i rest, x = .str a ∧ xs = [.str b] ∧ Builtin.Str.occurrences a b 0 a.length 1 = i :: rest ∧ Q (.int (i : Nat)) H
theorem sidxK {X : Cx} (K : PySem.W.Frag) (h : X.K = K) {o e : Expr} {to : TE} {ta : TA} {apos cpos : Pos} (ho : PE X o to) (ha : PA X [e] ta)
    (hbase : attributeBase o "index" X.env (eval o X.env) = eval o X.env := by rfl)
    (hfew : ((backTo cpos (starEach (e :: []) X.env)).all (fun x => !x.1) && (backToKw cpos (keywordEach [] X.env)).all (fun x => x.1.isSome)
      && decide ((e :: ([] : List Expr)).length + ([] : List Keyword).length + (if ([] : List Keyword).isEmpty then 0 else 1) < 30)) = true := by rfl)
    (hline : (apos.endLine == cpos.line) = true := by rfl) (hs : starEach (e :: []) X.env = (false, eval e X.env) :: starEach [] X.env := by rfl) (hplain : (backTo cpos (starEach [] X.env)).any (·.1) = false := by rfl) :
    PE X (.Call (.Attribute o "index" apos) [e] [] cpos) (tBM K "str" rSIdx to ta) := by
  subst h
  exact pe_bm PySem.F.plainAttrs_str PySem.F.slot_str_index PySem.F.type_str_index mt_sindex ho ha hbase hfew hline hs hplain
theorem i_sidx {al : List Nat} {k c : Nat} {H : Hp} {Q : VK} (hn : al.Nodup) (h : al[k]? = some c) (q : Q (.int (k : Int)) H) : rSIdx (.str (SX.S al)) [.str ⟨#[c]⟩] H Q := let ⟨r, e⟩ := occ_at hn h; ⟨_, _, k, r, rfl, rfl, e, q⟩
theorem AlOk.nd {al : List Nat} (h : AlOk al) : al.Nodup := h.inc.imp fun z => Nat.ne_of_lt z
structure OwnCal (P : Program) (w : World) (K : PySem.W.Frag) (mg : Str → Option Value) (base : Heap) (k : Nat) (C : Addr) (n : Str) (sp : Sp) : Prop where
  ex : ∃ (f : Addr) (fd : FuncData) (ps : List Str), FnOk P w K mg base C8.CX0 k f fd ps sp ∧ OwnM K C n f ∧ Binds K fd ps []
section
variable {X : Cx} {k j : Nat} {C : Addr} {sp : Sp}
theorem ownIn (c : OwnCal X.prog X.w X.K X.mg X.base k C "__contains__" sp) (hr : Room j X.A) (hk : k ≤ j) : OpR X (compareOp .In) (rOwnIn C sp C8.E0) := by
  obtain ⟨f, fd, ps, F, o, b⟩ := c.ex
  exact op_ownin F (hr.mono hk) o b C8.pass0
theorem ownEq (c : OwnCal X.prog X.w X.K X.mg X.base k C "__eq__" sp) (hr : Room j X.A) (hk : k ≤ j) : OpR X (compareOp .Eq) (rOwnEq C sp C8.E0) := by
  obtain ⟨f, fd, ps, F, o, b⟩ := c.ex
  exact op_owneq F (hr.mono hk) o b C8.pass0
theorem ownNe (c : OwnCal X.prog X.w X.K X.mg X.base k C "__eq__" sp) (hr : Room j X.A) (hk : k + 1 ≤ j) (hn : PySem.W.findIn X.K (.ref C) "__ne__" = some (some (.builtin "object.__ne__"))) (hm : PySem.W.mroIn X.K C (.type "object") = some true) : OpR X (compareOp .NotEq) (rOwnNe C sp C8.E0) := by
  obtain ⟨f, fd, ps, F, o, b⟩ := c.ex
  exact op_ownne F (hr.mono hk) o hn hm b C8.pass0
end
section
variable {K : PySem.W.Frag} {H : Hp} {Q : VK} {R : Prop}
theorem i_isN {x : V} (q : Q (.bl (decide (x = .non))) H) : rIsN x .non H Q := ⟨rfl, q⟩
theorem i_notN {x : V} (q : Q (.bl (!decide (x = .non))) H) : rNotN x .non H Q := ⟨rfl, q⟩
theorem iteNon {A B : Prop} (h : A) : if decide (V.non = V.non) = true then A else B := ite_dt rfl h
theorem iteNonN {A B : Prop} (h : B) : if (!decide (V.non = V.non)) = true then A else B := ite_ndf rfl h
theorem iteRefN {A B : Prop} {p : Addr} (h : B) : if decide (V.ref p = V.non) = true then A else B := ite_df (by intro z; cases z) h
theorem iteRefNN {A B : Prop} {p : Addr} (h : A) : if (!decide (V.ref p = V.non)) = true then A else B := ite_ndt (by intro z; cases z) h
theorem iteStrN {A B : Prop} {p : Str} (h : B) : if decide (V.str p = V.non) = true then A else B := ite_df (by intro z; cases z) h
theorem iteStrNN {A B : Prop} {p : Str} (h : A) : if (!decide (V.str p = V.non)) = true then A else B := ite_ndt (by intro z; cases z) h
theorem gNil_eq {σ : L2.St} {QS : L2.St → Hp → Prop} : gNil [] σ H QS = QS σ H := by
  unfold gNil
  simp
theorem gCons_eq {t : TG} {u : TGs} {v : V} {r : List V} {σ : L2.St} {QS : L2.St → Hp → Prop} : gCons t u (v :: r) σ H QS = t v σ H fun σ' H' => u r σ' H' QS := propext ⟨fun ⟨_, _, e, h⟩ => by cases e; exact h, fun h => ⟨_, _, rfl, h⟩⟩
theorem i_gTup2 {n : Nat} {t1 t2 : TG} {a : Addr} {x y : V} {σ : L2.St} {QS : L2.St → Hp → Prop} (h : H a = some (.tup [x, y])) (e : 2 = n) (q : t1 x σ H fun σ' H' => t2 y σ' H' QS) : gTup K n (gCons t1 (gCons t2 gNil)) (.ref a) σ H QS :=
  ⟨a, [x, y], rfl, SqT.of h, e, by
    simp only [gCons_eq, gNil_eq]
    exact q⟩
theorem i_gTup3 {n : Nat} {t1 t2 t3 : TG} {a : Addr} {x y z : V} {σ : L2.St} {QS : L2.St → Hp → Prop} (h : H a = some (.tup [x, y, z])) (e : 3 = n) (q : t1 x σ H fun σ' H' => t2 y σ' H' fun σ2 H2 => t3 z σ2 H2 QS) : gTup K n (gCons t1 (gCons t2 (gCons t3 gNil))) (.ref a) σ H QS :=
  ⟨a, [x, y, z], rfl, SqT.of h, e, by
    simp only [gCons_eq, gNil_eq]
    exact q⟩
theorem i_append {l : Addr} {xs : List V} {y : V} (h : H l = some (.lst xs)) (hl : xs.length < 16777216) (q : Q .non (upd H l (.lst (xs ++ [y])))) : rAppend (.ref l) [y] H Q := ⟨l, xs, y, rfl, rfl, h, szlt hl, q⟩
theorem i_bmL {p : Addr} {xs : List V} (h : H p = some (.lst xs)) (q : R) : tyV K "list" (.ref p) H ∧ R := ⟨.inl ⟨rfl, xs, SqL.of h⟩, q⟩
theorem i_bmStr {z : Str} (q : R) : tyV K "str" (.str z) H ∧ R := ⟨rfl, q⟩
theorem i_fldR {f : Str} {a C dx : Addr} {fs : List (Str × V)} {v : V} {R : V → Prop} (h : H a = some (.ins C dx fs)) (c : Cls K C) (n : NoAttr K C f) (e : fs.lookup f = some v) (q : R v) :
    ∃ a' C dx fs v, V.ref a = .ref a' ∧ H a' = some (.ins C dx fs) ∧ Cls K C ∧ NoAttr K C f ∧ fs.lookup f = some v ∧ R v := ⟨a, C, dx, fs, v, rfl, h, c, n, e, q⟩
end
def flds (al : List Nat) (pm pg : Addr) : List (Str × V) := putF "good" (.ref pg) (putF "moves" (.ref pm) (putF "alphabet" (.str (SX.S al)) []))
theorem fl_ma : ¬ (("moves" : Str) = "alphabet") := by decide +kernel
theorem fl_ga : ¬ (("good" : Str) = "alphabet") := by decide +kernel
theorem fl_gm : ¬ (("good" : Str) = "moves") := by decide +kernel
theorem flds_al (al : List Nat) (pm pg : Addr) : (flds al pm pg).lookup ("alphabet" : Str) = some (.str (SX.S al)) := by
  unfold flds
  rw [lookup_putF, if_neg (Ne.symm fl_ga), lookup_putF, if_neg (Ne.symm fl_ma), lookup_putF, if_pos rfl]
theorem flds_mo (al : List Nat) (pm pg : Addr) : (flds al pm pg).lookup ("moves" : Str) = some (.ref pm) := by
  unfold flds
  rw [lookup_putF, if_neg (Ne.symm fl_gm), lookup_putF, if_pos rfl]
theorem flds_go (al : List Nat) (pm pg : Addr) : (flds al pm pg).lookup ("good" : Str) = some (.ref pg) := by
  unfold flds
  rw [lookup_putF, if_pos rfl]
/-- a reader stands at p, none of it among T -/
def Rd (C : Addr) (T : AS) (H : Hp) (p : Addr) (al : List Nat) (rs : Rws) (gd : List Nat) : Prop :=
  ¬ T p ∧ ∃ dx pm pg, H p = some (.ins C dx (flds al pm pg)) ∧ RowsT T H pm rs ∧ IntsT T H pg gd
theorem Rd.kp {C : Addr} {T T' : AS} {H H' : Hp} {p : Addr} {al : List Nat} {rs : Rws} {gd : List Nat} (h : Rd C T H p al rs gd) (k : Kp T' H H') (i : ∀ b, T' b → T b) : Rd C T H' p al rs gd :=
  let ⟨h1, dx, pm, pg, h2, h3, h4⟩ := h; ⟨h1, dx, pm, pg, k _ _ (fun z => h1 (i _ z)) h2, h3.kp k i, h4.kp k i⟩
theorem Rd.same {C : Addr} {T : AS} {H H' : Hp} {p : Addr} {al : List Nat} {rs : Rws} {gd : List Nat} (h : Rd C T H p al rs gd) (s : Same H H') : Rd C T H' p al rs gd := h.kp (T' := fun _ => False) (.of_same s) (fun _ z => z.elim)
end U
namespace U
open PySem PySem.Spec PyProof.Rows L2 C8
def rInSg (neg : Bool) : R2 := fun x y H Q => ∃ c z, x = .str ⟨#[c]⟩ ∧ y = .str z ∧ Q (.bl (if neg then !decide (c ∈ z.cps.toList) else decide (c ∈ z.cps.toList))) H
theorem op_inSg {X : Cx} : OpR X (compareOp .In) (rInSg false) := op_in_sign
theorem op_notInSg {X : Cx} : OpR X (compareOp .NotIn) (rInSg true) := op_notIn_sign
section
variable {H : Hp} {Q : VK} {c : Nat} {al : List Nat} {z : Str}
theorem i_inSg (q : Q (.bl (decide (c ∈ al))) H) : rInSg false (.str ⟨#[c]⟩) (.str (SX.S al)) H Q := ⟨c, _, rfl, rfl, by simpa [SX.S] using q⟩
theorem i_notInSg (q : Q (.bl (!decide (c ∈ al))) H) : rInSg true (.str ⟨#[c]⟩) (.str (SX.S al)) H Q := ⟨c, _, rfl, rfl, by simpa [SX.S] using q⟩
theorem i_notInSgT (h : c ∈ z.cps.toList) (q : Q (.bl false) H) : rInSg true (.str ⟨#[c]⟩) (.str z) H Q := ⟨c, _, rfl, rfl, by simpa [h] using q⟩
end
end U
namespace U
open PySem PySem.Spec PyProof.Rows L2 C8
theorem inV_ints (n : Nat) : ∀ ns : List Nat, inV (vn n) (ns.map vn) = decide (n ∈ ns)
  | [] => rfl
  | a :: ns => by
    have ih := inV_ints n ns
    unfold inV at ih ⊢
    rw [List.map_cons, List.any_cons, ih]
    have e : eqV (vn a) (vn n) = decide (a = n) := by
      show decide ((a : Int) = (n : Int)) = _
      by_cases h : a = n
      · subst h; simp
      · have : ¬ ((a : Int) = (n : Int)) := by omega
        simp [h, this]
    rw [e]
    by_cases h : a = n
    · subst h; simp
    · have h' : ¬ n = a := fun z => h z.symm
      simp [h, h']
theorem flat_ints (ns : List Nat) : (ns.map vn).all flatV = true := by
  rw [List.all_eq_true]
  intro x hx
  obtain ⟨n, _, rfl⟩ := List.mem_map.mp hx
  rfl
theorem i_inI {K : PySem.W.Frag} {H : Hp} {Q : VK} {p : Addr} {t : Bool} {ns : List Nat} {n : Nat} (h : H p = some (sq t (ns.map vn))) (q : Q (.bl (decide (n ∈ ns))) H) : rIn K false (.int (n : Int)) (.ref p) H Q := by
  refine ⟨p, ns.map vn, rfl, ?_, rfl, flat_ints ns, ?_⟩
  · cases t with
    | false => exact .inl (SqL.of h)
    | true => exact .inr (SqT.of h)
  · rw [show inV (.int (n : Int)) (ns.map vn) = decide (n ∈ ns) from inV_ints n ns]
    exact q
theorem i_notInI {K : PySem.W.Frag} {H : Hp} {Q : VK} {p : Addr} {t : Bool} {ns : List Nat} {n : Nat} (h : H p = some (sq t (ns.map vn))) (q : Q (.bl (!decide (n ∈ ns))) H) : rIn K true (.int (n : Int)) (.ref p) H Q := by
  refine ⟨p, ns.map vn, rfl, ?_, rfl, flat_ints ns, ?_⟩
  · cases t with
    | false => exact .inl (SqL.of h)
    | true => exact .inr (SqT.of h)
  · rw [show inV (.int (n : Int)) (ns.map vn) = decide (n ∈ ns) from inV_ints n ns]
    exact q
theorem Word.len {al w z : List Nat} (h : Word al w z) : z.length = w.length := by rw [h.2, List.length_map]
theorem Word.at {al w z : List Nat} {i c : Nat} (h : Word al w z) (hc : z[i]? = some c) : ∃ a, w[i]? = some a ∧ a < al.length ∧ al[a]? = some c := by
  rw [h.2, List.getElem?_map] at hc
  cases e : w[i]? with
  | none => rw [e] at hc; cases hc
  | some a =>
    rw [e] at hc
    have ha := h.1 a (List.mem_of_getElem? e)
    refine ⟨a, rfl, ha, ?_⟩
    have hc' : al.getD a 0 = c := Option.some.inj hc
    rw [List.getElem?_eq_getElem ha]
    rw [List.getD_eq_getElem?_getD, List.getElem?_eq_getElem ha] at hc'
    exact congrArg some hc'
end U
namespace U
open PySem PySem.Spec PyProof.Rows L2
theorem keyA0 {H : Hp} {p : Addr} {b : Bool} (h : H p = some (.tup [.bl b])) : KeyAt H (.tup [nkB b]) (.ref p) := ⟨p, rfl, NK.tup h (.cons (.bl b) .nil), by simp [NestedKey.depth, NestedKey.depthAll, nkB]⟩
theorem keyA1 {H : Hp} {p q : Addr} {c : Nat} {ts : List Nat} (h : H p = some (.tup [vn c, .ref q])) (h2 : H q = some (.tup (ts.map vn))) : KeyAt H (.tup [nkN c, .tup (ts.map nkN)]) (.ref p) :=
  ⟨p, rfl, NK.tup h (.cons (.int _) (.cons (NK.tup h2 (nk_ints ts)) .nil)), by simp [NestedKey.depth, NestedKey.depthAll, nk_depth, nkN]⟩
theorem keyP {H : Hp} {p : Addr} {a b : Nat} (h : H p = some (.tup [vn a, vn b])) : KeyAt H (.tup [nkN a, nkN b]) (.ref p) := ⟨p, rfl, NK.tup h (.cons (.int _) (.cons (.int _) .nil)), by simp [NestedKey.depth, NestedKey.depthAll, nkN]⟩
theorem KeyAt.kp {H H' : Hp} {k : NestedKey} {y : V} (h : KeyAt H k y) (t : TKp H H') : KeyAt H' k y := let ⟨a, e, n, d⟩ := h; ⟨a, e, n.kp t, d⟩
theorem tkp_same {H H' : Hp} (s : Same H H') : TKp H H' := fun b _ e => s b _ e
theorem NDict.same {P : Program} {w : World} {H H' : Hp} {d : Addr} {kvs : List (NestedKey × V)} (n : NDict P w H d kvs) (s : Same H H') : NDict P w H' d kvs := by
  obtain ⟨xs, h1, h2, h3⟩ := n.ex
  exact ⟨⟨xs, s _ _ h1, fun x hx => ⟨(h2 x hx).1.kp (tkp_same s), (h2 x hx).2⟩, h3⟩, n.nz, n.len⟩
theorem NDict.old {P : Program} {w : World} {H : Hp} {d : Addr} {kvs : List (NestedKey × V)} (n : NDict P w H d kvs) : Old H d := by
  obtain ⟨xs, h1, _⟩ := n.ex
  exact ⟨_, h1⟩
theorem NDict.notdK {P : Program} {w : World} {H : Hp} {d e : Addr} {kvs : List (NestedKey × V)} {ks : List (Key × V)} (n : NDict P w H d kvs) (h : H e = some (.dK ks)) : d ≠ e := fun z => by
  obtain ⟨xs, h1, _⟩ := n.ex
  rw [z, h] at h1
  cases h1
theorem NDict.nottup {P : Program} {w : World} {H : Hp} {d : Addr} {kvs : List (NestedKey × V)} (n : NDict P w H d kvs) (vs : List V) : H d ≠ some (.tup vs) := fun z => by
  obtain ⟨xs, h1, _⟩ := n.ex
  rw [z] at h1
  cases h1
theorem NDict.notlst {P : Program} {w : World} {H : Hp} {d e : Addr} {kvs : List (NestedKey × V)} {ks : List V} (n : NDict P w H d kvs) (h : H e = some (.lst ks)) : d ≠ e := fun z => by
  obtain ⟨xs, h1, _⟩ := n.ex
  rw [z, h] at h1
  cases h1
theorem NDict.upd {P : Program} {w : World} {H : Hp} {d e : Addr} {kvs : List (NestedKey × V)} {o : HO} (n : NDict P w H d kvs) (h : d ≠ e) (t : ∀ vs, H e ≠ some (.tup vs)) : NDict P w (upd H e o) d kvs := n.kp (tkp_upd t) (upd_ne h)
section
variable {α : Type} [DecidableEq α]
theorem dd_pre (l m : List α) : ∃ k, dd (l ++ m) = dd l ++ k := by
  unfold dd
  rw [addsN_app]
  exact addsN_pre _ _
theorem pl_pre {l m : List α} {x : α} (h : x ∉ dd l) : pl (dd (l ++ x :: m)) x = (dd l).length := by
  have e : l ++ x :: m = (l ++ [x]) ++ m := by simp
  obtain ⟨k, hk⟩ := dd_pre (l ++ [x]) m
  rw [e, hk, dd_snoc, addN, if_neg h]
  unfold pl
  rw [List.append_assoc, List.idxOf_append, if_neg h]
  simp
theorem dd_take {l : List α} {i : Nat} {x : α} (h : l[i]? = some x) : dd (l.take (i + 1)) = addN (dd (l.take i)) x := by rw [take_at h, dd_snoc]
theorem split_at {l : List α} {i : Nat} {x : α} (h : l[i]? = some x) : l = l.take i ++ x :: l.drop (i + 1) := by
  obtain ⟨hi, e⟩ := List.getElem?_eq_some_iff.mp h
  rw [← e, ← List.drop_eq_getElem_cons hi, List.take_append_drop]
theorem pl_take {l : List α} {i : Nat} {x : α} (h : l[i]? = some x) (hn : x ∉ dd (l.take i)) : pl (dd l) x = (dd (l.take i)).length := by
  have e := split_at h
  conv => lhs; rw [e]
  exact pl_pre hn
end
def dInts (ns : List Nat) : PyData := .tuple (ns.map fun (n : Nat) => PyData.int (n : Int))
def dIntsL (ns : List Nat) : PyData := .list (ns.map fun (n : Nat) => PyData.int (n : Int))
def dRows (rs : Rws) : PyData := .tuple (rs.map dInts)
section
variable {K : PySem.W.Frag} {H : Hp} {T : AS} {p : Addr}
theorem dp_ints : ∀ ns : List Nat, DpAll K H (ns.map vn) (ns.map fun (n : Nat) => PyData.int (n : Int))
  | [] => .nil
  | n :: ns => .cons (.int _) (dp_ints ns)
theorem IntsT.dp {ns : List Nat} (h : IntsT T H p ns) : Dp K H (.ref p) (dInts ns) := .tup (SqT.of h.2) (dp_ints ns)
theorem dp_intsL {ns : List Nat} (h : H p = some (.lst (ns.map vn))) : Dp K H (.ref p) (dIntsL ns) := .lst (SqL.of h) (dp_ints ns)
theorem dp_rows : ∀ {as : List Addr} {rs : Rws}, Paired (fun a r => IntsT T H a r) as rs → DpAll K H (as.map V.ref) (rs.map dInts)
  | _, _, .nil => .nil
  | _, _, .cons h t => .cons h.dp (dp_rows t)
theorem RowsT.dp {rs : Rws} (h : RowsT T H p rs) : Dp K H (.ref p) (dRows rs) := by
  obtain ⟨_, as, h2, h3⟩ := h
  exact .tup (SqT.of h2) (dp_rows h3)
end
theorem eqvAll_ints : ∀ a b : List Nat, PyData.eqvAll (a.map fun (n : Nat) => PyData.int (n : Int)) (b.map fun (n : Nat) => PyData.int (n : Int)) = decide (a = b)
  | [], [] => by simp [PyData.eqvAll]
  | [], _ :: _ => by simp [PyData.eqvAll]
  | _ :: _, [] => by simp [PyData.eqvAll]
  | x :: a, y :: b => by
    rw [List.map_cons, List.map_cons, PyData.eqvAll, eqvAll_ints a b, PyData.eqv]
    by_cases h : x = y
    · subst h; simp
    · have : ¬ ((x : Int) = (y : Int)) := by omega
      simp [h, this]
theorem eqv_dInts (a b : List Nat) : PyData.eqv (dInts a) (dInts b) = decide (a = b) := by rw [dInts, dInts, PyData.eqv, eqvAll_ints]
theorem eqv_dIntsL (a b : List Nat) : PyData.eqv (dIntsL a) (dIntsL b) = decide (a = b) := by rw [dIntsL, dIntsL, PyData.eqv, eqvAll_ints]
theorem eqvAll_rows : ∀ a b : Rws, PyData.eqvAll (a.map dInts) (b.map dInts) = decide (a = b)
  | [], [] => by simp [PyData.eqvAll]
  | [], _ :: _ => by simp [PyData.eqvAll]
  | _ :: _, [] => by simp [PyData.eqvAll]
  | x :: a, y :: b => by
    rw [List.map_cons, List.map_cons, PyData.eqvAll, eqvAll_rows a b, eqv_dInts]
    by_cases h : x = y
    · subst h; simp
    · simp [h]
theorem eqv_dRows (a b : Rws) : PyData.eqv (dRows a) (dRows b) = decide (a = b) := by rw [dRows, dRows, PyData.eqv, eqvAll_rows]
theorem lay_ints : ∀ a : List Nat, PyData.canLayAll0 (a.map fun (n : Nat) => PyData.int (n : Int)) = true ∧ PyData.depthAll (a.map fun (n : Nat) => PyData.int (n : Int)) = 0
  | [] => by simp [PyData.canLayAll0, PyData.depthAll]
  | x :: a => by
    have h := lay_ints a
    rw [List.map_cons, PyData.canLayAll0, PyData.depthAll, h.1, h.2]
    simp [PyData.canLay0, PyData.depth]
theorem lay_rows : ∀ a : Rws, PyData.canLayAll0 (a.map dInts) = true ∧ PyData.depthAll (a.map dInts) ≤ 1
  | [] => by simp [PyData.canLayAll0, PyData.depthAll]
  | x :: a => by
    have h := lay_rows a
    have hx := lay_ints x
    rw [List.map_cons, PyData.canLayAll0, PyData.depthAll, h.1, dInts, PyData.canLay0, PyData.depth, hx.1, hx.2]
    exact ⟨rfl, Nat.max_le.mpr ⟨by omega, h.2⟩⟩
theorem shaped_ints (a : List Nat) : SeqAt.shaped (dInts a) = true := by
  have h := lay_ints a
  unfold SeqAt.shaped
  rw [dInts, PyData.canLay0, PyData.depth, h.1, h.2]
  decide
theorem shaped_intsL (a : List Nat) : SeqAt.shaped (dIntsL a) = true := by
  have h := lay_ints a
  unfold SeqAt.shaped
  rw [dIntsL, PyData.canLay0, PyData.depth, h.1, h.2]
  decide
theorem shaped_rows (a : Rws) : SeqAt.shaped (dRows a) = true := by
  have h := lay_rows a
  unfold SeqAt.shaped
  rw [dRows, PyData.canLay0, PyData.depth, h.1, Bool.true_and]
  exact decide_eq_true (by omega)
section
variable {K : PySem.W.Frag} {H : Hp} {T T' : AS} {p q : Addr} {Q : VK}
theorem i_eqInts {a b : List Nat} (h : IntsT T H p a) (h' : IntsT T' H q b) (k : Q (.bl (decide (a = b))) H) : rEqD K (.ref p) (.ref q) H Q := ⟨_, _, h.dp, h'.dp, shaped_ints _, shaped_ints _, by rw [eqv_dInts]; exact k⟩
theorem i_eqIntsL {a b : List Nat} (h : H p = some (.lst (a.map vn))) (h' : H q = some (.lst (b.map vn))) (k : Q (.bl (decide (a = b))) H) : rEqD K (.ref p) (.ref q) H Q := ⟨_, _, dp_intsL h, dp_intsL h', shaped_intsL _, shaped_intsL _, by rw [eqv_dIntsL]; exact k⟩
theorem i_eqRows {a b : Rws} (h : RowsT T H p a) (h' : RowsT T' H q b) (k : Q (.bl (decide (a = b))) H) : rEqD K (.ref p) (.ref q) H Q := ⟨_, _, h.dp, h'.dp, shaped_rows _, shaped_rows _, by rw [eqv_dRows]; exact k⟩
end
end U
namespace U
open PySem PySem.Spec PyProof.Rows L2
theorem Same.put {H0 H : Hp} {p : Addr} {o : HO} (s : Same H0 H) (h : H0 p = none) : Same H0 (upd H p o) := fun b u e => by
  rw [upd_ne (ne_of_none e h)]
  exact s _ _ e
theorem i_cut {t u : TS} {D : Ends} {σ : L2.St} {H : Hp} (Mid : L2.St → Hp → Prop) (h1 : t { D with nx := Mid } σ H) (h2 : ∀ σ' H', Mid σ' H' → u D σ' H') : C8.tCut t u D σ H := ⟨Mid, h1, h2⟩
section
variable {P : Program} {w : World} {H : Hp} {Q : VK} {d : Addr} {k : NestedKey} {y : V} {kvs : List (NestedKey × V)}
theorem r_nnotin (n : NDict P w H d kvs) (ky : KeyAt H k y) (q : Q (.bl (!(lookN kvs k).isSome)) H) : RNNotIn P w (.ref d) y H Q := ⟨d, k, kvs, rfl, n, ky, q⟩
theorem r_nin (n : NDict P w H d kvs) (ky : KeyAt H k y) (q : Q (.bl (lookN kvs k).isSome) H) : RNIn P w (.ref d) y H Q := ⟨d, k, kvs, rfl, n, ky, q⟩
theorem r_nget {v : V} (n : NDict P w H d kvs) (ky : KeyAt H k y) (e : lookN kvs k = some v) (q : Q v H) : RNGet P w (.ref d) y H Q := ⟨d, k, kvs, v, rfl, n, ky, e, q⟩
theorem r_nput {v : V} {R : Hp → Prop} (n : NDict P w H d kvs) (ky : KeyAt H k y) (hl : kvs.length < 16777216) (q : ∀ o, NDict P w (upd H d o) d (putN kvs k v) → R (upd H d o)) : RNPut P w (.ref d) y v H R := ⟨d, k, kvs, rfl, n, ky, szlt hl, q⟩
end
end U
namespace U
theorem map_at' {α β : Type} {f : α → β} {xs : List α} {i : Nat} {x : α} (h : xs[i]? = some x) : (xs.map f)[i]? = some (f x) := by
  rw [List.getElem?_map, h]
  rfl
end U
namespace U
open L2 PySem
theorem sz1 {x : V} : [x].length ≤ sizeLine := szl (by show 1 ≤ 16777216; decide)
theorem sz2 {x y : V} : [x, y].length ≤ sizeLine := szl (by show 2 ≤ 16777216; decide)
theorem sz3 {x y z : V} : [x, y, z].length ≤ sizeLine := szl (by show 3 ≤ 16777216; decide)
end U
namespace U
open PySem PySem.Spec PyProof.Rows L2
theorem same_free {H H' : Hp} (s : Same H H') {p : Addr} (h : H' p = none) : H p = none := by
  cases e : H p with
  | none => rfl
  | some o => rw [s _ _ e] at h; cases h
/-- a list that grows beside all that stood: D fresh in H -/
theorem Same.grow {H H' : Hp} {D : Addr} {o : HO} (s : Same H H') (h : H D = none) : Same H (upd H' D o) := Same.put s h
end U
namespace U
open PySem PySem.Spec PyProof.Rows L2
theorem i_make {C : Addr} {sp : Sp} {E : XK} {t : TA} {σ : L2.St} {H : Hp} {Q : VK} (q : t σ H fun vs H1 => ∀ x dx, H1 x = none → H1 dx = none → dx ≠ x → sp (.ref x :: vs) (upd (upd H1 dx (.own x)) x (.ins C dx [])) (fun v H2 => v = .non ∧ Q (.ref x) H2) E) : tMake C sp [] E t σ H Q := by
  refine cast ?_ q
  unfold tMake
  simp only [List.append_nil]
theorem made_same {H H2 : Hp} {x dx C : Addr} (hx : H x = none) (hd : H dx = none) (k : Kp (fun b => b = x) (upd (upd H dx (.own x)) x (.ins C dx [])) H2) : Same H H2 := fun b o e => by
  have h1 : b ≠ x := fun z => by rw [z, hx] at e; cases e
  have h2 : b ≠ dx := fun z => by rw [z, hd] at e; cases e
  exact k b o h1 (by rw [upd_ne h1, upd_ne h2]; exact e)
end U
namespace U
open PySem PySem.Spec PyProof.Rows L2
theorem SqL.same {K : PySem.W.Frag} {H H' : Hp} {a : Addr} {xs : List V} (h : SqL K H a xs) (e : Same H H') : SqL K H' a xs :=
  h.elim (fun h => .inl (h.elim (fun h => .inl (e _ _ h)) fun ⟨o, h⟩ => .inr ⟨o, e _ _ h⟩)) fun h => .inr h
theorem i_lenLs {K : PySem.W.Frag} {H : Hp} {Q : VK} {p : Addr} {xs : List V} (h : SqL K H p xs) (q : Q (.int (xs.length : Nat)) H) : rLen K [.ref p] H Q := ⟨_, _, rfl, .inl ⟨xs, h, rfl⟩, q⟩
/-- a machine: rows and good rooms -/
def Mach (T : AS) (H : Hp) (p : Addr) (rs : Rws) (gd : List Nat) : Prop := ¬ T p ∧ ∃ pm pg, H p = some (.tup [.ref pm, .ref pg]) ∧ Rows T H pm rs ∧ Ints T H pg gd
theorem Mach.kp {T T' : AS} {H H' : Hp} {p : Addr} {rs : Rws} {gd : List Nat} (h : Mach T H p rs gd) (k : Kp T' H H') (i : ∀ b, T' b → T b) : Mach T H' p rs gd :=
  let ⟨h1, pm, pg, h2, h3, h4⟩ := h; ⟨h1, pm, pg, k _ _ (fun z => h1 (i _ z)) h2, h3.kp k i, h4.kp k i⟩
theorem Mach.same {T : AS} {H H' : Hp} {p : Addr} {rs : Rws} {gd : List Nat} (h : Mach T H p rs gd) (s : Same H H') : Mach T H' p rs gd := h.kp (T' := fun _ => False) (.of_same s) (fun _ z => z.elim)
theorem cutV_to3 (xs : List V) : cutV xs none (some 3) = xs.take 3 := by
  unfold cutV
  have e1 : HT.sIx xs.length 0 none = 0 := rfl
  rw [e1, List.drop_zero, Nat.sub_zero]
  by_cases h : xs.length ≤ 3
  · rw [List.take_of_length_le h]
    refine List.take_of_length_le ?_
    simp [HT.sIx]
    omega
  · congr 1
    simp [HT.sIx]
    omega
theorem intBits_lt {i : Int} {n : Nat} (h0 : 0 < n) (h : i.natAbs < 2 ^ n) : Builtin.Int.intBits i ≤ n := by
  have e : Builtin.Int.intBits i ≤ i.natAbs.log2 + 1 := by
    unfold Builtin.Int.intBits
    split <;> omega
  have := PySem.Flt.log2_lt_of h0 h
  omega
end U
namespace U
open PySem PySem.Spec PyProof.Rows L2
section
variable {S : AS} {H H' : Hp} {p D : Addr} {o : HO} {rs : Rws} {gd ns : List Nat}
theorem Ev.put (hS : Srcs S H) (e : Ev S H H') (h : H D = none) : Ev S H (upd H' D o) := ⟨fun b u n q => by
  rw [upd_ne (ne_of_none q h)]
  exact e.kp b u n q, fun a ha => by
  obtain ⟨x, y, z, q⟩ := e.src a ha
  refine ⟨x, y, z, ?_⟩
  rw [upd_ne (fun z => hS.notin h (by rw [← z]; exact ha))]
  exact q⟩
theorem Ev.at (e : Ev S H H') (n : ¬ S p) (h : H p = some o) : H' p = some o := e.kp _ _ n h
theorem Ints.ev (h : Ints S H p ns) (e : Ev S H H') : Ints S H' p ns := h.kp e.kp fun _ z => z
theorem IntsT.ev (h : IntsT S H p ns) (e : Ev S H H') : IntsT S H' p ns := h.kp e.kp fun _ z => z
theorem Rows.ev (h : Rows S H p rs) (e : Ev S H H') : Rows S H' p rs := h.kp e.kp fun _ z => z
theorem RowsT.ev (h : RowsT S H p rs) (e : Ev S H H') : RowsT S H' p rs := h.kp e.kp fun _ z => z
theorem Mach.ev (h : Mach S H p rs gd) (e : Ev S H H') : Mach S H' p rs gd := h.kp e.kp fun _ z => z
theorem Rd.ev {C : Addr} {al : List Nat} (h : Rd C S H p al rs gd) (e : Ev S H H') : Rd C S H' p al rs gd := h.kp e.kp fun _ z => z
/-- a list that grows by whole numbers drawn -/
theorem paired_ev {as : List Addr} {rws : Rws} (h : Paired (fun a r => Ints S H a r) as rws) (e : Ev S H H') : Paired (fun a r => Ints S H' a r) as rws := Paired.mapP h fun _ _ z => z.ev e
end
theorem join_sum (cs : List Nat) : ((cs.map fun c => (⟨#[c]⟩ : Str)).map (·.length)).sum = cs.length := by
  induction cs with
  | nil => rfl
  | cons c r ih =>
    rw [List.map_cons, List.map_cons, List.sum_cons, ih, List.length_cons]
    show 1 + r.length = r.length + 1
    omega
theorem i_exS {z : Str} {R : Prop} (r : R) : (∃ a, V.str z = .str a) ∧ R := ⟨⟨z, rfl⟩, r⟩
theorem joinL_one : ∀ cs : List Nat, TL.joinL [] (cs.map fun c => [c]) = cs
  | [] => rfl
  | [_] => rfl
  | c :: d :: r => by
    have ih := joinL_one (d :: r)
    rw [List.map_cons] at ih
    rw [List.map_cons, List.map_cons]
    show [c] ++ ([] ++ TL.joinL [] ([d] :: r.map fun c => [c])) = _
    rw [ih]
    rfl
theorem join_one (cs : List Nat) : Txt.join ("" : Str) (cs.map fun c => (⟨#[c]⟩ : Str)) = SX.S cs := by
  have e := SX.join_S [] (cs.map fun c => [c])
  have e1 : (cs.map fun c => [c]).map SX.S = cs.map fun c => (⟨#[c]⟩ : Str) := by
    rw [List.map_map]
    rfl
  have e2 := joinL_one cs
  rw [e1] at e
  rw [show (SX.S [] : Str) = "" from rfl] at e
  rw [e, e2]
end U
namespace U
open PySem PySem.Spec PyProof.Rows L2
section
variable {te t : TE} {tl th : L2.TO} {r : V → Option Int → Option Int → Hp → VK → Prop} {σ : L2.St} {H : Hp} {Q : VK} {QO : Option Int → Hp → Prop}
theorem i_sl (q : te σ H fun x H1 => tl σ H1 fun l H2 => th σ H2 fun u H3 => r x l u H3 Q) : L2.tSl r te tl th σ H Q := q
theorem i_noPart (q : QO none H) : tNoPart σ H QO := q
theorem i_part (q : t σ H fun x H1 => ∃ i, x = .int i ∧ QO (some i) H1) : tPart t σ H QO := q
theorem ex_intV {n : Int} {P : Int → Prop} (h : P n) : ∃ i, V.int n = .int i ∧ P i := ⟨n, rfl, h⟩
end
end U
namespace U
open PySem PySem.Spec PyProof.Rows L2
theorem paired_of {α β : Type} {F : α → β → Prop} : ∀ {xs : List α} {ys : List β}, xs.length = ys.length → (∀ (i : Nat) (x : α) (y : β), xs[i]? = some x → ys[i]? = some y → F x y) → Paired F xs ys
  | [], [], _, _ => .nil
  | [], _ :: _, h, _ => by simp at h
  | _ :: _, [], h, _ => by simp at h
  | x :: xs, y :: ys, h, f => .cons (f 0 x y rfl rfl) (paired_of (by simpa using h) fun i a b ha hb => f (i + 1) a b (by simpa using ha) (by simpa using hb))
theorem ixN_nat {n y : Nat} (h : y < n) : ixN n (y : Int) = some y := by
  unfold ixN
  rw [if_pos (by omega), if_pos (by omega), Int.toNat_natCast]
end U
namespace U
section
variable {rs : Rws}
theorem scan_step (k : Nat) : ∃ m, scanAt rs (k + 1) = scanAt rs k ++ m := addsN_pre _ _
theorem scan_mono (k j : Nat) : ∃ m, scanAt rs (k + j) = scanAt rs k ++ m := by
  induction j with
  | zero => exact ⟨[], by simp⟩
  | succ j ih =>
    obtain ⟨m, e⟩ := ih
    obtain ⟨m', e'⟩ := scan_step (rs := rs) (k + j)
    exact ⟨m ++ m', by rw [← Nat.add_assoc, e', e, List.append_assoc]⟩
theorem scan_sub {k l : Nat} (h : k ≤ l) {x : Nat} (hx : x ∈ scanAt rs k) : x ∈ scanAt rs l := by
  obtain ⟨m, e⟩ := scan_mono (rs := rs) k (l - k)
  rw [show k + (l - k) = l by omega] at e
  rw [e]
  exact List.mem_append_left _ hx
theorem addsN_same {α : Type} [DecidableEq α] {o ts : List α} (h : ∀ t ∈ ts, t ∈ o) : addsN o ts = o := by
  induction ts with
  | nil => rfl
  | cons t ts ih =>
    show addsN (addN o t) ts = o
    rw [addN, if_pos (h t (List.mem_cons_self ..))]
    exact ih fun u hu => h u (List.mem_cons_of_mem _ hu)
/-- what a room leads to comes in when it is gone through -/
theorem scan_row {k q r : Nat} (hq : q < k) (h : (scanAt rs q)[q]? = some r) {t : Nat} (ht : t ∈ row rs r) : t ∈ scanAt rs k := by
  refine scan_sub hq ?_
  show t ∈ addsN (scanAt rs q) (row rs ((scanAt rs q).getD q 0))
  rw [List.getD_eq_getElem?_getD, h]
  exact mem_addsN.mpr (.inr ht)
/-- once all are gone through nothing changes -/
theorem scan_stuck {k : Nat} (h : (scanAt rs k).length ≤ k) : scanAt rs (k + 1) = scanAt rs k := by
  show addsN (scanAt rs k) (row rs ((scanAt rs k).getD k 0)) = _
  refine addsN_same fun t ht => ?_
  rw [List.getD_eq_getElem?_getD, List.getElem?_eq_none h] at ht
  have hp := scan_pos rs k
  exact scan_row (q := 0) (by omega) (scan0 rs 0) ht
theorem scan_stays {k : Nat} (h : (scanAt rs k).length ≤ k) (j : Nat) : scanAt rs (k + j) = scanAt rs k := by
  induction j with
  | zero => rfl
  | succ j ih =>
    rw [← Nat.add_assoc]
    rw [scan_stuck (by rw [ih]; omega), ih]
theorem scan_full {k l : Nat} (h : (scanAt rs k).length ≤ k) (hl : k ≤ l) : scanAt rs l = scanAt rs k := by
  have := scan_stays h (l - k)
  rwa [show k + (l - k) = l by omega] at this
theorem scan_at {k q r : Nat} (hq : q < k) (h : (scanAt rs k)[q]? = some r) : (scanAt rs q)[q]? = some r := by
  by_cases hl : q < (scanAt rs q).length
  · obtain ⟨m, e⟩ := scan_mono (rs := rs) q (k - q)
    rw [show q + (k - q) = k by omega] at e
    rw [e, List.getElem?_append_left hl] at h
    exact h
  · rw [scan_full (Nat.le_of_not_lt hl) (Nat.le_of_lt hq)] at h
    exact h
theorem scan_closed {k : Nat} (h : (scanAt rs k).length ≤ k) {r t : Nat} (hr : r ∈ scanAt rs k) (ht : t ∈ row rs r) : t ∈ scanAt rs k := by
  obtain ⟨q, hq⟩ := List.mem_iff_getElem?.mp hr
  have hql := (List.getElem?_eq_some_iff.mp hq).1
  exact scan_row (q := q) (by omega) (scan_at (by omega) hq) ht
theorem scan_has0 (k : Nat) : 0 ∈ scanAt rs k := List.mem_of_getElem? (scan0 rs k)
end
end U
namespace U
/-- the good rooms of the least table -/
def lgood (mk : Nat → Bool) (rooms : List Nat) (g : Nat → Nat) : List Nat := (List.range (headsOf rooms g).length).filter fun r => (lmarks mk rooms g).getD r false
theorem num_lt {α : Type} [DecidableEq α] {rooms : List Nat} {sig : Nat → α} {r : Nat} (h : r ∈ rooms) : num rooms sig r < (dd (rooms.map sig)).length := pl_lt (mem_dd.mpr (List.mem_map.mpr ⟨r, h, rfl⟩))
theorem lrows_len (rs : Rws) (o : List Nat) (g : Nat → Nat) : (lrows rs o g).length = (headsOf o g).length := by
  unfold lrows
  rw [List.length_map]
theorem heads_le (o : List Nat) (g : Nat → Nat) : (headsOf o g).length ≤ o.length := by
  rw [heads_len]
  have := len_dd (o.map g)
  rwa [List.length_map] at this
theorem WFB.lrows {m : Nat} {rs : Rws} (w : WFB m rs) {i : Nat} (hi : (scanAt rs i).length = i) (g : Nat → Nat) : WFB m (lrows rs (scanAt rs i) g) where
  pos := by
    rw [lrows_len, heads_len]
    exact List.length_pos_of_mem (mem_dd.mpr (List.mem_map.mpr ⟨0, scan_has0 i, rfl⟩))
  le := by
    rw [lrows_len]
    have h1 := heads_le (scanAt rs i) g
    have h2 := w.scan_len i
    have h3 := w.le
    omega
  m3 := w.m3
  wid := fun r hr => by
    obtain ⟨h, hh, rfl⟩ := List.mem_map.mp hr
    rw [List.length_map]
    exact w.row_len (w.scan_lt i h (heads_mem hh))
  lt := fun r hr t ht => by
    obtain ⟨h, hh, rfl⟩ := List.mem_map.mp hr
    obtain ⟨u, hu, rfl⟩ := List.mem_map.mp ht
    rw [lrows_len, heads_len]
    exact num_lt (scan_closed (by omega) (heads_mem hh) hu)
theorem range_inc (n : Nat) : (List.range n).Pairwise (· < ·) := List.pairwise_lt_range
theorem GOK.filter {n : Nat} (f : Nat → Bool) : GOK n ((List.range n).filter f) := ⟨(range_inc n).filter _, fun x hx => List.mem_range.mp (List.mem_filter.mp hx).1⟩
end U
namespace U
theorem range_filter_t {f : Nat → Bool} {q : Nat} (h : f q = true) : (List.range (q + 1)).filter f = (List.range q).filter f ++ [q] := by
  rw [List.range_succ, List.filter_append, List.filter_cons_of_pos h, List.filter_nil]
theorem range_filter_f {f : Nat → Bool} {q : Nat} (h : f q = false) : (List.range (q + 1)).filter f = (List.range q).filter f := by
  rw [List.range_succ, List.filter_append, List.filter_cons_of_neg (by rw [h]; decide), List.filter_nil, List.append_nil]
end U
namespace U
open PySem
mutual
def clsB (rs : Rws) (gd : List Nat) : Nat → Nat → Nat
  | 0, p => if p ∈ gd then 1 else 0
  | k + 1, p => pl (dd ((List.range rs.length).map fun q => NestedKey.tup [nkN (clsB rs gd k q), .tup ((row rs q).map fun t => nkN (clsB rs gd k t))])) (.tup [nkN (clsB rs gd k p), .tup ((row rs p).map fun t => nkN (clsB rs gd k t))])
end
/-- what a room shows in round k + 1 -/
def sigB (rs : Rws) (gd : List Nat) (k : Nat) (p : Nat) : NestedKey := .tup [nkN (clsB rs gd (k - 1) p), .tup ((row rs p).map fun t => nkN (clsB rs gd (k - 1) t))]
theorem clsB_eq (rs : Rws) (gd : List Nat) (k p : Nat) : clsB rs gd (k + 1) p = num (List.range rs.length) (sigB rs gd (k + 1)) p := by
  simp only [clsB, num]
  rfl
end U
namespace U
section
variable {α β : Type} [DecidableEq α] [DecidableEq β]
theorem dd_map_on {f : α → β} (l : List α) (hf : ∀ x ∈ l, ∀ y ∈ l, f x = f y → x = y) : dd (l.map f) = (dd l).map f := by
  induction l using rev_ind with
  | h0 => rfl
  | hs l x ih =>
    have ih' := ih fun a ha b hb => hf a (List.mem_append_left _ ha) b (List.mem_append_left _ hb)
    rw [List.map_append, List.map_singleton, dd_snoc, dd_snoc, ih']
    unfold addN
    have e : f x ∈ (dd l).map f ↔ x ∈ dd l := ⟨fun h => by
      obtain ⟨y, hy, e⟩ := List.mem_map.mp h
      rw [← hf y (List.mem_append_left _ (mem_dd.mp hy)) x (List.mem_append_right _ (List.mem_singleton.mpr rfl)) e]
      exact hy, fun h => List.mem_map.mpr ⟨x, h, rfl⟩⟩
    by_cases h : x ∈ dd l
    · rw [if_pos h, if_pos (e.mpr h)]
    · rw [if_neg h, if_neg (fun z => h (e.mp z)), List.map_append]
      rfl
theorem pl_inj {l : List α} {x y : α} (hx : x ∈ l) (hy : y ∈ l) (h : pl l x = pl l y) : x = y := by
  have h1 := pl_at hx
  have h2 := pl_at hy
  rw [h, h2] at h1
  exact (Option.some.inj h1).symm
theorem num_inj {rooms : List Nat} {sig : Nat → α} {x y : Nat} (hx : x ∈ rooms) (hy : y ∈ rooms) (h : num rooms sig x = num rooms sig y) : sig x = sig y :=
  pl_inj (mem_dd.mpr (List.mem_map.mpr ⟨x, hx, rfl⟩)) (mem_dd.mpr (List.mem_map.mpr ⟨y, hy, rfl⟩)) h
theorem cnt_num (rooms : List Nat) (sig : Nat → α) : cnt rooms (num rooms sig) = cnt rooms sig := by
  unfold cnt
  have e : rooms.map (num rooms sig) = (rooms.map sig).map (pl (dd (rooms.map sig))) := by
    rw [List.map_map]
    rfl
  rw [e, dd_map_on (rooms.map sig) fun x hx y hy h => pl_inj (mem_dd.mpr hx) (mem_dd.mpr hy) h, List.length_map]
/-- one that shows more has more classes; where they are as many, it shows the same -/
theorem cnt_pick (rooms : List Nat) (s : Nat → α) (u : Nat → β) (h : ∀ x ∈ rooms, ∀ y ∈ rooms, s x = s y → u x = u y) : ∃ g : α → β, ∀ x ∈ rooms, u x = g (s x) := by
  refine ⟨fun k => u ((rooms.find? fun x => decide (s x = k)).getD 0), fun x hx => ?_⟩
  show u x = u ((rooms.find? fun y => decide (s y = s x)).getD 0)
  cases e : rooms.find? fun y => decide (s y = s x) with
  | none =>
    have := List.find?_eq_none.mp e x hx
    simp at this
  | some y =>
    have h1 := List.mem_of_find?_eq_some e
    have h2 := List.find?_some e
    exact h x hx y h1 (of_decide_eq_true h2).symm
theorem cnt_le {rooms : List Nat} {s : Nat → α} {u : Nat → β} (h : ∀ x ∈ rooms, ∀ y ∈ rooms, s x = s y → u x = u y) : cnt rooms u ≤ cnt rooms s := by
  obtain ⟨g, hg⟩ := cnt_pick rooms s u h
  have z : (dd (rooms.map u)).length ≤ ((dd (rooms.map s)).map g).length := nodup_sub (nd_dd _) fun x hx => by
    obtain ⟨r, hr, rfl⟩ := List.mem_map.mp (mem_dd.mp hx)
    rw [hg r hr]
    exact List.mem_map.mpr ⟨s r, mem_dd.mpr (List.mem_map.mpr ⟨r, hr, rfl⟩), rfl⟩
  rwa [List.length_map] at z
theorem nodup_of_len : ∀ {a b : List β}, a.Nodup → (∀ x ∈ a, x ∈ b) → b.length ≤ a.length → b.Nodup
  | a, [], _, _, _ => List.nodup_nil
  | a, y :: b, ha, hs, hl => by
    by_cases hy : y ∈ b
    · have := nodup_sub (k := b) ha fun x hx => by
        rcases List.mem_cons.mp (hs x hx) with e | e
        · rw [e]; exact hy
        · exact e
      rw [List.length_cons] at hl
      omega
    · rw [List.nodup_cons]
      refine ⟨hy, nodup_of_len (a := a.erase y) (ha.erase _) (fun x hx => ?_) ?_⟩
      · have hx' := (ha.mem_erase_iff).mp hx
        rcases List.mem_cons.mp (hs x hx'.2) with e | e
        · exact (hx'.1 e).elim
        · exact e
      · by_cases hm : y ∈ a
        · rw [List.length_erase_of_mem hm]
          rw [List.length_cons] at hl
          omega
        · rw [List.erase_of_not_mem hm]
          rw [List.length_cons] at hl
          omega
theorem map_inj_of_nodup {γ : Type} {f : γ → β} : ∀ {l : List γ}, (l.map f).Nodup → ∀ x ∈ l, ∀ y ∈ l, f x = f y → x = y
  | [], _, _, h, _, _, _ => by cases h
  | a :: l, h, x, hx, y, hy, e => by
    rw [List.map_cons, List.nodup_cons] at h
    rcases List.mem_cons.mp hx with ex | hx1
    · rcases List.mem_cons.mp hy with ey | hy1
      · rw [ex, ey]
      · exact (h.1 (by rw [← ex, e]; exact List.mem_map.mpr ⟨y, hy1, rfl⟩)).elim
    · rcases List.mem_cons.mp hy with ey | hy1
      · exact (h.1 (by rw [← ey, ← e]; exact List.mem_map.mpr ⟨x, hx1, rfl⟩)).elim
      · exact map_inj_of_nodup h.2 x hx1 y hy1 e
theorem cnt_eq {rooms : List Nat} {s : Nat → α} {u : Nat → β} (h : ∀ x ∈ rooms, ∀ y ∈ rooms, s x = s y → u x = u y) (hc : cnt rooms s ≤ cnt rooms u) : ∀ x ∈ rooms, ∀ y ∈ rooms, u x = u y → s x = s y := by
  obtain ⟨g, hg⟩ := cnt_pick rooms s u h
  have nd : ((dd (rooms.map s)).map g).Nodup := nodup_of_len (nd_dd (rooms.map u)) (fun x hx => by
    obtain ⟨r, hr, rfl⟩ := List.mem_map.mp (mem_dd.mp hx)
    rw [hg r hr]
    exact List.mem_map.mpr ⟨s r, mem_dd.mpr (List.mem_map.mpr ⟨r, hr, rfl⟩), rfl⟩) (by rw [List.length_map]; exact hc)
  intro x hx y hy e
  rw [hg x hx, hg y hy] at e
  exact map_inj_of_nodup nd _ (mem_dd.mpr (List.mem_map.mpr ⟨x, hx, rfl⟩)) _ (mem_dd.mpr (List.mem_map.mpr ⟨y, hy, rfl⟩)) e
end
theorem nkN_inj {a b : Nat} (h : nkN a = nkN b) : a = b := by
  unfold nkN at h
  injection h with h
  omega
theorem nk_map_inj : ∀ {a b : List Nat}, a.map nkN = b.map nkN → a = b
  | [], [], _ => rfl
  | [], _ :: _, h => by cases h
  | _ :: _, [], h => by cases h
  | x :: a, y :: b, h => by
    rw [List.map_cons, List.map_cons, List.cons.injEq] at h
    rw [nkN_inj h.1, nk_map_inj h.2]
theorem sigB_fst {rs : Rws} {gd : List Nat} {k p q : Nat} (h : sigB rs gd (k + 1) p = sigB rs gd (k + 1) q) : clsB rs gd k p = clsB rs gd k q := by
  unfold sigB at h
  injection h with h
  rw [List.cons.injEq] at h
  exact nkN_inj h.1
theorem cntB_grow (rs : Rws) (gd : List Nat) (k : Nat) : cnt (List.range rs.length) (clsB rs gd k) ≤ cnt (List.range rs.length) (sigB rs gd (k + 1)) := cnt_le fun _ _ _ _ h => sigB_fst h
theorem cntB_next (rs : Rws) (gd : List Nat) (k : Nat) : cnt (List.range rs.length) (clsB rs gd (k + 1)) = cnt (List.range rs.length) (sigB rs gd (k + 1)) := by
  have e : clsB rs gd (k + 1) = num (List.range rs.length) (sigB rs gd (k + 1)) := funext fun p => clsB_eq rs gd k p
  rw [e, cnt_num]
theorem cnt_len {α : Type} [DecidableEq α] (rooms : List Nat) (s : Nat → α) : cnt rooms s ≤ rooms.length := by
  have := len_dd (rooms.map s)
  rwa [List.length_map] at this
end U
namespace U
open PySem
/-- the same texts from p and from p' -/
def LangEq (m : Nat) (rs : Rws) (gd : List Nat) (p : Nat) (rs' : Rws) (gd' : List Nat) (p' : Nat) : Prop := ∀ w : List Nat, (∀ a ∈ w, a < m) → (run rs p w ∈ gd ↔ run rs' p' w ∈ gd')
theorem LangEq.step {m : Nat} {rs : Rws} {gd : List Nat} {p : Nat} {rs' : Rws} {gd' : List Nat} {p' : Nat} (h : LangEq m rs gd p rs' gd' p') {a : Nat} (ha : a < m) : LangEq m rs gd (stp rs p a) rs' gd' (stp rs' p' a) := fun w hw => h (a :: w) fun b hb => by
  rcases List.mem_cons.mp hb with e | e
  · rw [e]; exact ha
  · exact hw b e
theorem LangEq.here {m : Nat} {rs : Rws} {gd : List Nat} {p : Nat} {rs' : Rws} {gd' : List Nat} {p' : Nat} (h : LangEq m rs gd p rs' gd' p') : p ∈ gd ↔ p' ∈ gd' := h [] (by simp)
theorem LangEq.symm {m : Nat} {rs : Rws} {gd : List Nat} {p : Nat} {rs' : Rws} {gd' : List Nat} {p' : Nat} (h : LangEq m rs gd p rs' gd' p') : LangEq m rs' gd' p' rs gd p := fun w hw => (h w hw).symm
theorem LangEq.trans {m : Nat} {rs : Rws} {gd : List Nat} {p : Nat} {rs' : Rws} {gd' : List Nat} {p' : Nat} {rs2 : Rws} {gd2 : List Nat} {p2 : Nat} (h : LangEq m rs gd p rs' gd' p') (h' : LangEq m rs' gd' p' rs2 gd2 p2) : LangEq m rs gd p rs2 gd2 p2 := fun w hw => (h w hw).trans (h' w hw)
/-- least, in order -/
structure Canon (m : Nat) (rs : Rws) (gd : List Nat) : Prop where
  ord : scanAt rs rs.length = List.range rs.length
  sep : ∀ p q, p < rs.length → q < rs.length → LangEq m rs gd p rs gd q → p = q
/-- where the parting by number stands still, each room is alone -/
theorem clsB_sub (rs : Rws) (gd : List Nat) : ∀ k p q, p < rs.length → q < rs.length → clsB rs gd k p = clsB rs gd k q → (p ∈ gd ↔ q ∈ gd)
  | 0, p, q, _, _, h => by
    simp only [clsB] at h
    by_cases hp : p ∈ gd
    · by_cases hq : q ∈ gd
      · simp [hp, hq]
      · rw [if_pos hp, if_neg hq] at h
        cases h
    · by_cases hq : q ∈ gd
      · rw [if_neg hp, if_pos hq] at h
        cases h
      · simp [hp, hq]
  | k + 1, p, q, hp, hq, h => by
    rw [clsB_eq, clsB_eq] at h
    exact clsB_sub rs gd k p q hp hq (sigB_fst (num_inj (List.mem_range.mpr hp) (List.mem_range.mpr hq) h))
theorem sigB_snd {rs : Rws} {gd : List Nat} {k p q : Nat} (h : sigB rs gd (k + 1) p = sigB rs gd (k + 1) q) : (row rs p).map (clsB rs gd k) = (row rs q).map (clsB rs gd k) := by
  unfold sigB at h
  injection h with h
  rw [List.cons.injEq, List.cons.injEq] at h
  have h2 := h.2.1
  injection h2 with h2
  have e : ∀ r : Nat, (row rs r).map (fun t => nkN (clsB rs gd k t)) = ((row rs r).map (clsB rs gd k)).map nkN := fun r => by rw [List.map_map]; rfl
  have h3 : ((row rs p).map (clsB rs gd k)).map nkN = ((row rs q).map (clsB rs gd k)).map nkN := by
    rw [← e p, ← e q]
    exact h2
  exact nk_map_inj h3
theorem map_getD {f : Nat → Nat} {l l' : List Nat} {a : Nat} (h : l.map f = l'.map f) (ha : a < l.length) (ha' : a < l'.length) : f (l.getD a 0) = f (l'.getD a 0) := by
  have e : (l.map f)[a]? = (l'.map f)[a]? := by rw [h]
  rw [List.getElem?_map, List.getElem?_map, List.getElem?_eq_getElem ha, List.getElem?_eq_getElem ha'] at e
  rw [List.getD_eq_getElem?_getD, List.getD_eq_getElem?_getD, List.getElem?_eq_getElem ha, List.getElem?_eq_getElem ha']
  exact Option.some.inj e
theorem clsB_lang {m : Nat} {rs : Rws} {gd : List Nat} (w : WFB m rs) {k : Nat} (hk : cnt (List.range rs.length) (sigB rs gd (k + 1)) = cnt (List.range rs.length) (clsB rs gd k)) :
    ∀ (l : List Nat) (p q : Nat), p < rs.length → q < rs.length → (∀ a ∈ l, a < m) → clsB rs gd k p = clsB rs gd k q → (run rs p l ∈ gd ↔ run rs q l ∈ gd)
  | [], p, q, hp, hq, _, h => clsB_sub rs gd k p q hp hq h
  | a :: l, p, q, hp, hq, hl, h => by
    have hs := cnt_eq (s := sigB rs gd (k + 1)) (u := clsB rs gd k) (rooms := List.range rs.length) (fun _ _ _ _ z => sigB_fst z) (by omega) p (List.mem_range.mpr hp) q (List.mem_range.mpr hq) h
    have ha := hl a (List.mem_cons_self ..)
    exact clsB_lang w hk l (stp rs p a) (stp rs q a) (w.stp_lt hp ha) (w.stp_lt hq ha) (fun b hb => hl b (List.mem_cons_of_mem _ hb)) (map_getD (sigB_snd hs) (by rw [w.row_len hp]; exact ha) (by rw [w.row_len hq]; exact ha))
theorem Canon.classes {m : Nat} {rs : Rws} {gd : List Nat} (w : WFB m rs) (c : Canon m rs gd) {k : Nat} (hk : cnt (List.range rs.length) (sigB rs gd (k + 1)) = cnt (List.range rs.length) (clsB rs gd k)) : cnt (List.range rs.length) (sigB rs gd (k + 1)) = rs.length := by
  rw [hk]
  have h1 : ∀ x ∈ List.range rs.length, ∀ y ∈ List.range rs.length, clsB rs gd k x = clsB rs gd k y → x = y := fun x hx y hy h => by
    rw [List.mem_range] at hx hy
    exact c.sep x y hx hy fun l hl => clsB_lang w hk l x y hx hy hl h
  have h2 : cnt (List.range rs.length) id ≤ cnt (List.range rs.length) (clsB rs gd k) := cnt_le h1
  have h3 : cnt (List.range rs.length) id = rs.length := by
    unfold cnt
    rw [List.map_id]
    have hn : (List.range rs.length).Nodup := (range_inc _).imp fun z => Nat.ne_of_lt z
    have h4 := nodup_sub hn fun x hx => (mem_dd (l := List.range rs.length)).mpr hx
    have h5 := len_dd (List.range rs.length)
    rw [List.length_range] at h4 h5
    omega
  have h6 := cnt_len (List.range rs.length) (clsB rs gd k)
  rw [List.length_range] at h6
  omega
end U
namespace U
abbrev It := List Nat × Nat × Nat
def ItOk (m : Nat) (A : Rws) (p0 : Nat) (B : Rws) (q0 : Nat) (k : Nat) (prs : List (Nat × Nat)) (it : It) : Prop := (∀ a ∈ it.1, a < m) ∧ it.1.length = k ∧ run A p0 it.1 = it.2.1 ∧ run B q0 it.1 = it.2.2 ∧ it.2 ∈ prs
def Dn (m : Nat) (A : Rws) (gA : List Nat) (B : Rws) (gB : List Nat) (prs : List (Nat × Nat)) (pr : Nat × Nat) : Prop := (pr.1 ∈ gA ↔ pr.2 ∈ gB) ∧ ∀ a, a < m → (stp A pr.1 a, stp B pr.2 a) ∈ prs
theorem Dn.mono {m : Nat} {A : Rws} {gA : List Nat} {B : Rws} {gB : List Nat} {prs prs' : List (Nat × Nat)} {pr : Nat × Nat} (h : Dn m A gA B gB prs pr) (s : ∀ x ∈ prs, x ∈ prs') : Dn m A gA B gB prs' pr := ⟨h.1, fun a ha => s _ (h.2 a ha)⟩
theorem ItOk.mono {m : Nat} {A : Rws} {p0 : Nat} {B : Rws} {q0 k : Nat} {prs prs' : List (Nat × Nat)} {it : It} (h : ItOk m A p0 B q0 k prs it) (s : ∀ x ∈ prs, x ∈ prs') : ItOk m A p0 B q0 k prs' it := ⟨h.1, h.2.1, h.2.2.1, h.2.2.2.1, s _ h.2.2.2.2⟩
theorem dn_all {m : Nat} {A : Rws} {gA : List Nat} {B : Rws} {gB : List Nat} {prs : List (Nat × Nat)} (h : ∀ pr ∈ prs, Dn m A gA B gB prs pr) : ∀ (w : List Nat) (pr : Nat × Nat), pr ∈ prs → (∀ a ∈ w, a < m) → (run A pr.1 w ∈ gA ↔ run B pr.2 w ∈ gB)
  | [], pr, hp, _ => (h pr hp).1
  | a :: w, pr, hp, hw => dn_all h w _ ((h pr hp).2 a (hw a (List.mem_cons_self ..))) fun b hb => hw b (List.mem_cons_of_mem _ hb)
/-- behind i items of the level lv, at the letter t of the next one -/
structure Lev (m : Nat) (A : Rws) (gA : List Nat) (p0 : Nat) (B : Rws) (gB : List Nat) (q0 k : Nat) (lv open_ lt : List It) (prs : List (Nat × Nat)) (cur : Nat × Nat → Prop) : Prop where
  nd : prs.Nodup
  rng : ∀ pr ∈ prs, pr.1 < A.length ∧ pr.2 < B.length
  st : (p0, q0) ∈ prs
  lvo : ∀ it ∈ lv, ItOk m A p0 B q0 k prs it
  lto : ∀ it ∈ lt, ItOk m A p0 B q0 (k + 1) prs it
  dn : ∀ pr ∈ prs, (∃ it ∈ open_, it.2 = pr) ∨ (∃ it ∈ lt, it.2 = pr) ∨ Dn m A gA B gB prs pr ∨ cur pr
  gr : lv ≠ [] → k + 1 + lt.length ≤ prs.length
  em : lv = [] → lt = []
  ll : lt.length ≤ prs.length
section
variable {m : Nat} {A : Rws} {gA : List Nat} {p0 : Nat} {B : Rws} {gB : List Nat} {q0 k : Nat} {lv op lt : List It} {prs : List (Nat × Nat)} {cur : Nat × Nat → Prop}
/-- a pair that was met -/
theorem Lev.add (h : Lev m A gA p0 B gB q0 k lv op lt prs cur) {it : It} (hit : ItOk m A p0 B q0 (k + 1) (prs ++ [it.2]) it) (hne : lv ≠ []) (hn : it.2 ∉ prs) (hr : it.2.1 < A.length ∧ it.2.2 < B.length) : Lev m A gA p0 B gB q0 k lv op (lt ++ [it]) (prs ++ [it.2]) cur where
  nd := by
    rw [List.nodup_append]
    exact ⟨h.nd, by simp, fun x hx y hy e => hn (by rw [← List.mem_singleton.mp hy, ← e]; exact hx)⟩
  rng := fun pr hpr => by
    rcases List.mem_append.mp hpr with e | e
    · exact h.rng pr e
    · rw [List.mem_singleton.mp e]; exact hr
  st := List.mem_append_left _ h.st
  lvo := fun i hi => (h.lvo i hi).mono fun x hx => List.mem_append_left _ hx
  lto := fun i hi => by
    rcases List.mem_append.mp hi with e | e
    · exact (h.lto i e).mono fun x hx => List.mem_append_left _ hx
    · rw [List.mem_singleton.mp e]; exact hit
  dn := fun pr hpr => by
    rcases List.mem_append.mp hpr with e | e
    · rcases h.dn pr e with z | ⟨i, hi, z⟩ | z | z
      · exact .inl z
      · exact .inr (.inl ⟨i, List.mem_append_left _ hi, z⟩)
      · exact .inr (.inr (.inl (z.mono fun x hx => List.mem_append_left _ hx)))
      · exact .inr (.inr (.inr z))
    · exact .inr (.inl ⟨it, List.mem_append_right _ (List.mem_singleton.mpr rfl), (List.mem_singleton.mp e).symm⟩)
  gr := fun z => by
    have := h.gr z
    rw [List.length_append, List.length_append]
    show k + 1 + (lt.length + 1) ≤ prs.length + 1
    omega
  em := fun z => (hne z).elim
  ll := by
    have := h.ll
    rw [List.length_append, List.length_append]
    show lt.length + 1 ≤ prs.length + 1
    omega
theorem Lev.weak {op' : List It} {cur' : Nat × Nat → Prop} (h : Lev m A gA p0 B gB q0 k lv op lt prs cur) (hd : ∀ pr ∈ prs, ((∃ it ∈ op, it.2 = pr) ∨ cur pr) → ((∃ it ∈ op', it.2 = pr) ∨ (∃ it ∈ lt, it.2 = pr) ∨ Dn m A gA B gB prs pr ∨ cur' pr)) : Lev m A gA p0 B gB q0 k lv op' lt prs cur' :=
  ⟨h.nd, h.rng, h.st, h.lvo, h.lto, fun pr hpr => by
    rcases h.dn pr hpr with z | z | z | z
    · exact hd pr hpr (.inl z)
    · exact .inr (.inl z)
    · exact .inr (.inr (.inl z))
    · exact hd pr hpr (.inr z), h.gr, h.em, h.ll⟩
/-- the level is gone through -/
theorem Lev.next (h : Lev m A gA p0 B gB q0 k lv [] lt prs fun _ => False) : Lev m A gA p0 B gB q0 (k + 1) lt lt [] prs fun _ => False where
  nd := h.nd
  rng := h.rng
  st := h.st
  lvo := h.lto
  lto := fun it hi => by cases hi
  dn := fun pr hpr => by
    rcases h.dn pr hpr with ⟨i, hi, _⟩ | z | z | z
    · cases hi
    · exact .inl z
    · exact .inr (.inr (.inl z))
    · exact z.elim
  gr := fun z => by
    have h1 : lv ≠ [] := fun e => z (h.em e)
    have h2 := h.gr h1
    have h3 : 0 < lt.length := List.length_pos_iff.mpr z
    rw [List.length_nil]
    omega
  em := fun _ => rfl
  ll := Nat.zero_le _
theorem Lev.start (h0 : p0 < A.length) (h1 : q0 < B.length) : Lev m A gA p0 B gB q0 0 [([], p0, q0)] [([], p0, q0)] [] [(p0, q0)] fun _ => False where
  nd := by simp
  rng := fun pr hpr => by rw [List.mem_singleton.mp hpr]; exact ⟨h0, h1⟩
  st := List.mem_singleton.mpr rfl
  lvo := fun it hi => by
    rw [List.mem_singleton.mp hi]
    exact ⟨by simp, rfl, rfl, rfl, List.mem_singleton.mpr rfl⟩
  lto := fun it hi => by cases hi
  dn := fun pr hpr => .inl ⟨_, List.mem_singleton.mpr rfl, (List.mem_singleton.mp hpr).symm⟩
  gr := fun _ => by simp
  em := fun z => by cases z
  ll := Nat.zero_le _
/-- all is gone through -/
theorem Lev.lang (h : Lev m A gA p0 B gB q0 k lv lv [] prs fun _ => False) (e : lv = []) : LangEq m A gA p0 B gB q0 := fun w hw => dn_all (prs := prs) (fun pr hpr => by
  rcases h.dn pr hpr with ⟨i, hi, _⟩ | ⟨i, hi, _⟩ | z | z
  · rw [e] at hi; cases hi
  · cases hi
  · exact z
  · exact z.elim) w (p0, q0) h.st hw
end
end U
namespace U
theorem Canon.at_lt {m : Nat} {rs : Rws} {gd : List Nat} (c : Canon m rs gd) {i : Nat} (hi : i < rs.length) : i < (scanAt rs i).length := by
  refine Classical.byContradiction fun hn => ?_
  have h1 := scan_full (rs := rs) (Nat.le_of_not_lt hn) (Nat.le_of_lt hi)
  have h2 := congrArg List.length h1
  rw [c.ord, List.length_range] at h2
  omega
theorem Canon.at {m : Nat} {rs : Rws} {gd : List Nat} (c : Canon m rs gd) {i : Nat} (hi : i < rs.length) : (scanAt rs i)[i]? = some i := by
  obtain ⟨r, hr⟩ : ∃ r, (scanAt rs i)[i]? = some r := ⟨_, List.getElem?_eq_getElem (c.at_lt hi)⟩
  obtain ⟨l, e⟩ := scan_mono (rs := rs) i (rs.length - i)
  rw [show i + (rs.length - i) = rs.length by omega, c.ord] at e
  have h := List.getElem?_range hi
  rw [e, List.getElem?_append_left (c.at_lt hi), hr] at h
  rw [hr, h]
end U
namespace U
theorem rel_lang {m : Nat} {A : Rws} {g : List Nat} {B : Rws} {g' : List Nat} (R : Nat → Nat → Prop) (hg : ∀ x y, R x y → (x ∈ g ↔ y ∈ g')) (hs : ∀ x y a, R x y → a < m → R (stp A x a) (stp B y a)) : ∀ {p q : Nat}, R p q → LangEq m A g p B g' q := fun {p q} h w => by
  induction w generalizing p q with
  | nil => exact fun _ => hg _ _ h
  | cons a w ih => exact fun hw => ih (hs _ _ a h (hw a (List.mem_cons_self ..))) fun b hb => hw b (List.mem_cons_of_mem _ hb)
theorem ins_mem {α : Type} {l : List α} {x y : α} {i : Nat} : y ∈ l.take i ++ [x] ++ l.drop i ↔ y ∈ l ∨ y = x := by
  have e : y ∈ l ↔ y ∈ l.take i ∨ y ∈ l.drop i := by
    conv => lhs; rw [← List.take_append_drop i l]
    rw [List.mem_append]
  rw [e, List.mem_append, List.mem_append, List.mem_singleton]
  constructor
  · rintro ((h | h) | h)
    · exact .inl (.inl h)
    · exact .inr h
    · exact .inl (.inr h)
  · rintro ((h | h) | h)
    · exact .inl (.inl h)
    · exact .inr h
    · exact .inl (.inr h)
theorem ins_len {α : Type} {l : List α} {x : α} {i : Nat} : (l.take i ++ [x] ++ l.drop i).length = l.length + 1 := by
  rw [List.length_append, List.length_append, List.length_take, List.length_drop, List.length_singleton]
  omega
theorem ins_0 {α : Type} {l : List α} {x y : α} {i : Nat} (hi : 1 ≤ i) (h : l[0]? = some y) : (l.take i ++ [x] ++ l.drop i)[0]? = some y := by
  obtain ⟨h1, h2⟩ := List.getElem?_eq_some_iff.mp h
  have h3 : 0 < (l.take i).length := by rw [List.length_take]; omega
  rw [List.append_assoc, List.getElem?_append_left h3, List.getElem?_take]
  rw [if_pos (by omega)]
  exact h
theorem sum_take {l : List Nat} {i c : Nat} (h : l[i]? = some c) : (l.take (i + 1)).sum = (l.take i).sum + c := by
  rw [take_at h, List.sum_append]
  simp
theorem sum_pos {l : List Nat} (h : ∀ c ∈ l, 1 ≤ c) : l.length ≤ l.sum := by
  induction l with
  | nil => simp
  | cons a l ih =>
    have := h a (List.mem_cons_self ..)
    have := ih fun c hc => h c (List.mem_cons_of_mem _ hc)
    rw [List.length_cons, List.sum_cons]
    omega
end U
namespace U
open PySem PySem.Spec PyProof.Rows L2
theorem firstMet_dd {ns : List Int} : ∀ i, i ≤ ns.length → PyProof.Rows.firstMet (fun i => ns.getD i 0) i = dd (ns.take i)
  | 0, _ => rfl
  | i + 1, hi => by
    have hlt : i < ns.length := hi
    have e1 : ns.getD i 0 = ns[i] := by
      rw [List.getD_eq_getElem?_getD, List.getElem?_eq_getElem hlt] <;> rfl
    have e2 : ns.take (i + 1) = ns.take i ++ [ns[i]] := take_at (List.getElem?_eq_getElem hlt)
    rw [PyProof.Rows.firstMet_succ, firstMet_dd i (Nat.le_of_lt hlt), e2, dd_snoc]
    show (if (dd (ns.take i)).any (· == ns.getD i 0) then dd (ns.take i) else dd (ns.take i) ++ [ns.getD i 0]) = addN (dd (ns.take i)) ns[i]
    rw [e1]
    unfold addN
    by_cases h : ns[i] ∈ dd (ns.take i)
    · rw [if_pos h, if_pos (List.any_eq_true.mpr ⟨ns[i], h, by simp⟩)]
    · rw [if_neg h, if_neg (fun z => h (by
        obtain ⟨y, hy, e⟩ := List.any_eq_true.mp z
        rw [beq_iff_eq] at e
        rw [← e]
        exact hy))]
def tLenSetG (K : PySem.W.Frag) (ta : TE) : TE := fun σ H Q => ta σ H fun x H1 => ∃ (l : Addr) (ns : List Int), x = .ref l ∧ SqL K H1 l (ns.map V.int) ∧ ns.length ≤ 4000 ∧ Q (.int ((dd ns).length : Nat)) H1
theorem pe_lenSetG {X : Cx} {a : Expr} {ta : TE} {p p2 q pos : Pos} (hg : Gl X "len") (hm : X.mg "len" = none) (hg2 : Gl X "set") (hm2 : X.mg "set" = none) (ha : PE X a ta) (hc : X.calm = true := by rfl)
    (na : starEach [a] X.env = (false, eval a X.env) :: starEach [] X.env := by rfl) : PE X (.Call (.Name "len" p) [.Call (.Name "set" p2) [a] [] q] [] pos) (tLenSetG X.K ta) := by
  refine ⟨fun pins s σ H Q I h => ?_⟩
  refine Call_ (ld_blt I hg hm boot_len ?_)
  refine PyProof.Rows.callWith_builtin1 (PyProof.Rows.args_cons ?_ rfl) rfl rfl
  refine Call_ (ld_blt I hg2 hm2 boot_set ?_)
  refine PyProof.Rows.callWith_type1 (PyProof.Rows.args_cons (thn (ha.run pins s σ H _ I h) fun v s1 ⟨x, H1, I1, r1, q1⟩ => PyProof.Rows.args_nil ?_) na) na rfl
  obtain ⟨l, ns, rfl, hq, hl, q1⟩ := q1
  cases r1
  obtain ⟨its, r, pl, hz⟩ := I1.list hq
  have hlen : its.toArray.size = ns.length := by rw [List.size_toArray, ← r.length, List.length_map]
  refine call_set_list (I1.ok.hd hc) pl.isList (by simpa using RZ.intsAre_vals r) (by rw [hlen]; unfold scanBound; omega) fun h' tk hS hk => ?_
  refine PyProof.Rows.args_nil ?_
  rw [hlen, firstMet_dd ns.length (Nat.le_refl _), List.take_length] at hS
  have hdl := len_dd ns
  obtain ⟨o, es, ep, t, ho, hex, hd, _, _, _, hf, hn⟩ := hS
  have I2 : Inv X pins σ H1 { s1 with heap := h', toks := tk } := I1.kept fun b o e => hk b o (Heap.lt_size e) e
  exact call_len_set ho hex hd hf (by rw [hn] <;> omega) ⟨.int (dd ns).length, H1, I2.tok _, ⟨_, by rw [hn]⟩, q1⟩
theorem i_lenSetG {K : PySem.W.Frag} {ta : TE} {σ : L2.St} {H : Hp} {Q : VK} (q : ta σ H fun x H1 => ∃ (l : Addr) (ns : List Int), x = .ref l ∧ SqL K H1 l (ns.map V.int) ∧ ns.length ≤ 4000 ∧ Q (.int ((dd ns).length : Nat)) H1) : tLenSetG K ta σ H Q := q
theorem dd_map_inj {α β : Type} [DecidableEq α] [DecidableEq β] {f : α → β} (hf : ∀ x y, f x = f y → x = y) (l : List α) : dd (l.map f) = (dd l).map f := by
  induction l using rev_ind with
  | h0 => rfl
  | hs l x ih =>
    rw [List.map_append, List.map_singleton, dd_snoc, dd_snoc, ih]
    unfold addN
    have e : f x ∈ (dd l).map f ↔ x ∈ dd l := ⟨fun h => by
      obtain ⟨y, hy, e⟩ := List.mem_map.mp h
      rw [← hf _ _ e]
      exact hy, fun h => List.mem_map.mpr ⟨x, h, rfl⟩⟩
    by_cases h : x ∈ dd l
    · rw [if_pos h, if_pos (e.mpr h)]
    · rw [if_neg h, if_neg (fun z => h (e.mp z)), List.map_append]
      rfl
end U
namespace U
open PySem PySem.Spec PyProof.Rows L2
theorem lenSetK {X : Cx} (K : PySem.W.Frag) (h : X.K = K) {a : Expr} {ta : TE} {p p2 q pos : Pos} (hg : Gl X "len") (hm : X.mg "len" = none) (hg2 : Gl X "set") (hm2 : X.mg "set" = none) (ha : PE X a ta) (hc : X.calm = true := by rfl)
    (na : starEach [a] X.env = (false, eval a X.env) :: starEach [] X.env := by rfl) : PE X (.Call (.Name "len" p) [.Call (.Name "set" p2) [a] [] q] [] pos) (tLenSetG K ta) := by
  subst h
  exact pe_lenSetG hg hm hg2 hm2 ha hc na
end U
namespace U
open PySem PySem.Spec PyProof.Rows L2
theorem Mach.weak {T T' : AS} {H : Hp} {p : Addr} {rs : Rws} {gd : List Nat} (h : Mach T H p rs gd) (i : ∀ b, T' b → T b) : Mach T' H p rs gd :=
  let ⟨h1, pm, pg, h2, h3, h4⟩ := h; ⟨fun z => h1 (i _ z), pm, pg, h2, h3.weak i, h4.weak i⟩
theorem Rd.weak {C : Addr} {T T' : AS} {H : Hp} {p : Addr} {al : List Nat} {rs : Rws} {gd : List Nat} (h : Rd C T H p al rs gd) (i : ∀ b, T' b → T b) : Rd C T' H p al rs gd :=
  let ⟨h1, dx, pm, pg, h2, h3, h4⟩ := h; ⟨fun z => h1 (i _ z), dx, pm, pg, h2, h3.weak i, h4.weak i⟩
theorem S_cons (c : Nat) (z : List Nat) : (⟨#[c]⟩ : Str) ++ SX.S z = SX.S (c :: z) := SX.S_cat [c] z
theorem Word.cons {al w z : List Nat} {x : Nat} (h : Word al w z) (hx : x < al.length) : Word al (x :: w) (al.getD x 0 :: z) := ⟨fun a ha => by
  rcases List.mem_cons.mp ha with e | e
  · rw [e]; exact hx
  · exact h.1 a e, by rw [List.map_cons, h.2]⟩
theorem Word.snoc {al w z : List Nat} {x : Nat} (h : Word al w z) (hx : x < al.length) : Word al (w ++ [x]) (z ++ [al.getD x 0]) := ⟨fun a ha => by
  rcases List.mem_append.mp ha with e | e
  · exact h.1 a e
  · rw [List.mem_singleton.mp e]; exact hx, by rw [List.map_append, h.2]; rfl⟩
theorem Word.app {al w z w' z' : List Nat} (h : Word al w z) (h' : Word al w' z') : Word al (w ++ w') (z ++ z') := ⟨fun a ha => by
  rcases List.mem_append.mp ha with e | e
  · exact h.1 a e
  · exact h'.1 a e, by rw [List.map_append, h.2, h'.2]⟩
end U
namespace U
open PySem PySem.Spec PyProof.Rows L2
def pk (pr : Nat × Nat) : NestedKey := .tup [nkN pr.1, nkN pr.2]
theorem pk_inj {a b : Nat × Nat} (h : pk a = pk b) : a = b := by
  unfold pk at h
  injection h with h
  rw [List.cons.injEq, List.cons.injEq] at h
  exact Prod.ext (nkN_inj h.1) (nkN_inj h.2.1)
theorem pk_mem {a : Nat × Nat} {l : List (Nat × Nat)} : pk a ∈ l.map pk ↔ a ∈ l := ⟨fun h => by
  obtain ⟨b, hb, e⟩ := List.mem_map.mp h
  rw [← pk_inj e]
  exact hb, fun h => List.mem_map.mpr ⟨a, h, rfl⟩⟩
def Prs (H : Hp) (bs : List Addr) (prs : List (Nat × Nat)) : Prop := Paired (fun a (pr : Nat × Nat) => H a = some (.tup [vn pr.1, vn pr.2])) bs prs
theorem Prs.same {H H' : Hp} {bs : List Addr} {prs : List (Nat × Nat)} (h : Prs H bs prs) (s : Same H H') : Prs H' bs prs := Paired.mapP h fun _ _ z => s _ _ z
theorem Prs.upd {H : Hp} {bs : List Addr} {prs : List (Nat × Nat)} {D : Addr} {o : HO} (h : Prs H bs prs) (n : ∀ vs, H D ≠ some (.tup vs)) : Prs (upd H D o) bs prs := Paired.mapP h fun a _ z => by
  rw [upd_ne (fun e => n _ (by rw [← e]; exact z))]
  exact z
theorem pairs_len {prs : List (Nat × Nat)} {n k : Nat} (hn : prs.Nodup) (h : ∀ pr ∈ prs, pr.1 < n ∧ pr.2 < k) : prs.length ≤ n * k := by
  have inj : ∀ a ∈ prs, ∀ b ∈ prs, a.1 * k + a.2 = b.1 * k + b.2 → a = b := fun a ha b hb e => by
    have h1 := (h a ha).2
    have h2 := (h b hb).2
    have hk : 0 < k := by omega
    have e1 : (a.1 * k + a.2) / k = a.1 := by rw [Nat.add_comm, Nat.add_mul_div_right _ _ hk, Nat.div_eq_of_lt h1, Nat.zero_add]
    have e2 : (b.1 * k + b.2) / k = b.1 := by rw [Nat.add_comm, Nat.add_mul_div_right _ _ hk, Nat.div_eq_of_lt h2, Nat.zero_add]
    have e3 : a.1 = b.1 := by rw [← e1, ← e2, e]
    rw [e3] at e
    exact Prod.ext e3 (by omega)
  have z : (prs.map fun pr => pr.1 * k + pr.2).Nodup := by
    clear h
    induction prs with
    | nil => exact List.nodup_nil
    | cons a l ih =>
      obtain ⟨h1, h2⟩ := List.nodup_cons.mp hn
      rw [List.map_cons, List.nodup_cons]
      refine ⟨fun hm => ?_, ih h2 fun x hx y hy => inj x (List.mem_cons_of_mem _ hx) y (List.mem_cons_of_mem _ hy)⟩
      obtain ⟨b, hb, e⟩ := List.mem_map.mp hm
      have := inj b (List.mem_cons_of_mem _ hb) a (List.mem_cons_self ..) e
      exact h1 (by rw [← this]; exact hb)
  have z2 := nodup_le z fun x hx => by
    obtain ⟨pr, hpr, rfl⟩ := List.mem_map.mp hx
    obtain ⟨h1, h2⟩ := h pr hpr
    have := Nat.mul_le_mul_right k (show pr.1 + 1 ≤ n from h1)
    rw [Nat.add_mul, Nat.one_mul] at this
    show pr.1 * k + pr.2 < n * k
    omega
  rwa [List.length_map] at z2
theorem RDispN {P : Program} {w : World} {σ : L2.St} {H : Hp} {Q : VK} {tk tv : TE} (q : ∀ p o, H p = none → NDict P w (upd H p o) p [] → tk σ (upd H p o) fun y H1 => tv σ H1 fun v H2 => ∃ k, KeyAt H2 k y ∧ NDict P w H2 p [] ∧ ∀ o', NDict P w (upd H2 p o') p [(k, v)] → Q (.ref p) (upd H2 p o')) : tDisp1N P w tk tv σ H Q := q
end U
namespace U
open PySem PySem.Spec PyProof.Rows L2
theorem i_break {D : Ends} {σ : L2.St} {H : Hp} (q : D.bk σ H) : tBreak D σ H := q
end U
namespace U
open PySem PySem.Spec PyProof.Rows L2
def LvAt (H : Hp) (al : List Nat) (ls : List Addr) (lv : List It) : Prop := Paired (fun a (it : It) => H a = some (.tup [.str (SX.S (it.1.map fun x => al.getD x 0)), vn it.2.1, vn it.2.2])) ls lv
theorem LvAt.same {H H' : Hp} {al : List Nat} {ls : List Addr} {lv : List It} (h : LvAt H al ls lv) (s : Same H H') : LvAt H' al ls lv := Paired.mapP h fun _ _ z => s _ _ z
theorem LvAt.upd {H : Hp} {al : List Nat} {ls : List Addr} {lv : List It} {D : Addr} {o : HO} (h : LvAt H al ls lv) (n : ∀ vs, H D ≠ some (.tup vs)) : LvAt (upd H D o) al ls lv := Paired.mapP h fun a _ z => by
  rw [upd_ne (fun e => n _ (by rw [← e]; exact z))]
  exact z
end U
namespace U
open PySem PySem.Spec PyProof.Rows L2
abbrev Plc := Option Nat × Nat
def fI : Option Nat → Int
  | none => -1
  | some p => (p : Int)
theorem fI_inj {a b : Option Nat} (h : fI a = fI b) : a = b := by
  cases a with
  | none => cases b with
    | none => rfl
    | some q => simp only [fI] at h; omega
  | some p => cases b with
    | none => simp only [fI] at h; omega
    | some q => simp only [fI] at h; congr; omega
def PlAt (H : Hp) (as : List Addr) (ps : List Plc) : Prop := Paired (fun a (p : Plc) => H a = some (.tup [.int (fI p.1), vn p.2])) as ps
theorem PlAt.kp {T : AS} {H H' : Hp} {as : List Addr} {ps : List Plc} (h : PlAt H as ps) (k : Kp T H H') (n : ∀ a vs, H a = some (.tup vs) → ¬ T a) : PlAt H' as ps := Paired.mapP h fun a _ z => k _ _ (n a _ z) z
theorem PlAt.ev {S : AS} {H H' : Hp} {as : List Addr} {ps : List Plc} (hS : Srcs S H) (h : PlAt H as ps) (e : Ev S H H') : PlAt H' as ps := h.kp e.kp fun _ _ z => hS.nottup z
theorem PlAt.upd {H : Hp} {as : List Addr} {ps : List Plc} {D : Addr} {o : HO} (h : PlAt H as ps) (n : ∀ vs, H D ≠ some (.tup vs)) : PlAt (upd H D o) as ps := Paired.mapP h fun a _ z => by
  rw [upd_ne (fun e => n _ (by rw [← e]; exact z))]
  exact z
theorem PlAt.ins {H : Hp} {as : List Addr} {ps : List Plc} {a : Addr} {p : Plc} (h : PlAt H as ps) (ha : H a = some (.tup [.int (fI p.1), vn p.2])) (i : Nat) : PlAt H (as.take i ++ [a] ++ as.drop i) (ps.take i ++ [p] ++ ps.drop i) := by
  have h1 : ∀ {xs : List Addr} {ys : List Plc} (j : Nat), PlAt H xs ys → PlAt H (xs.take j) (ys.take j) := fun {xs ys} j hh => by
    induction hh generalizing j with
    | nil => simp; exact .nil
    | cons r t ih => cases j with
      | zero => exact .nil
      | succ j => exact .cons r (ih j)
  have h2 : ∀ {xs : List Addr} {ys : List Plc} (j : Nat), PlAt H xs ys → PlAt H (xs.drop j) (ys.drop j) := fun {xs ys} j hh => by
    induction hh generalizing j with
    | nil => simp; exact .nil
    | cons r t ih => cases j with
      | zero => exact .cons r t
      | succ j => exact ih j
  have h3 : ∀ {xs : List Addr} {ys : List Plc} {us : List Addr} {ws : List Plc}, PlAt H xs ys → PlAt H us ws → PlAt H (xs ++ us) (ys ++ ws) := fun {xs ys us ws} hx hu => by
    induction hx with
    | nil => exact hu
    | cons r t ih => exact .cons r ih
  exact h3 (h3 (h1 i h) (.cons ha .nil)) (h2 i h)
def dPl (p : Plc) : PyData := .tuple [.int (fI p.1), .int (p.2 : Int)]
theorem dPl_eqv (a b : Plc) : PyData.eqv (dPl a) (dPl b) = decide (a = b) := by
  unfold dPl
  rw [PyData.eqv, PyData.eqvAll, PyData.eqvAll, PyData.eqvAll, PyData.eqv, PyData.eqv, Bool.and_true]
  by_cases h : a = b
  · subst h; simp
  · rw [decide_eq_false h]
    refine Bool.eq_false_iff.mpr fun z => h ?_
    rw [Bool.and_eq_true, beq_iff_eq, beq_iff_eq] at z
    exact Prod.ext (fI_inj z.1) (by omega)
theorem dPl_lay : ∀ ps : List Plc, PyData.canLayAll0 (ps.map dPl) = true ∧ PyData.depthAll (ps.map dPl) ≤ 1
  | [] => by simp [PyData.canLayAll0, PyData.depthAll]
  | p :: ps => by
    have h := dPl_lay ps
    rw [List.map_cons, PyData.canLayAll0, PyData.depthAll, h.1]
    simp only [dPl, PyData.canLay0, PyData.canLayAll0, PyData.depth, PyData.depthAll]
    exact ⟨rfl, Nat.max_le.mpr ⟨by decide, h.2⟩⟩
theorem PlAt.dp {K : PySem.W.Frag} {H : Hp} : ∀ {as : List Addr} {ps : List Plc}, PlAt H as ps → DpAll K H (as.map V.ref) (ps.map dPl)
  | _, _, .nil => .nil
  | _, _, .cons h t => .cons (.tup (SqT.of h) (.cons (.int _) (.cons (.int _) .nil))) (PlAt.dp t)
theorem pl_first {α : Type} [DecidableEq α] {l : List α} {x y : α} {j : Nat} (h : j < pl l x) (hy : l[j]? = some y) : y ≠ x := fun e => by
  obtain ⟨h1, h2⟩ := List.getElem?_eq_some_iff.mp hy
  unfold pl List.idxOf at h
  have h3 := List.not_of_lt_findIdx h
  simp [h2, e] at h3
theorem i_plIdx {K : PySem.W.Frag} {H : Hp} {Q : VK} {l y : Addr} {as : List Addr} {ps : List Plc} {p : Plc} (hl : H l = some (.lst (as.map V.ref))) (hp : PlAt H as ps) (hy : H y = some (.tup [.int (fI p.1), vn p.2])) (hm : p ∈ ps) (q : Q (vn (pl ps p)) H) : rIndexD K (.ref l) [.ref y] H Q := by
  have sh : SeqAt.shaped (.list (ps.map dPl)) = true := by
    have h := dPl_lay ps
    unfold SeqAt.shaped
    rw [PyData.canLay0, PyData.depth, h.1, Bool.true_and]
    exact decide_eq_true (by omega)
  have sp : SeqAt.shaped (dPl p) = true := by
    unfold SeqAt.shaped
    simp only [dPl, PyData.canLay0, PyData.canLayAll0, PyData.depth, PyData.depthAll]
    decide
  refine ⟨l, .ref y, dPl p, ps.map dPl, pl ps p, dPl p, rfl, rfl, .lst (SqL.of hl) hp.dp, .tup (SqT.of hy) (.cons (.int _) (.cons (.int _) .nil)), sh, sp, map_at' (f := dPl) (pl_at hm), by rw [dPl_eqv, decide_eq_true rfl], fun m' z' hm' hz' => ?_, q⟩
  obtain ⟨p', hp', rfl⟩ : ∃ p', ps[m']? = some p' ∧ z' = dPl p' := by
    rw [List.getElem?_map] at hz'
    cases e : ps[m']? with
    | none => rw [e] at hz'; cases hz'
    | some x => rw [e] at hz'; exact ⟨x, rfl, (Option.some.inj hz').symm⟩
  rw [dPl_eqv]
  refine decide_eq_false fun e => ?_
  rw [e] at hp'
  exact pl_first hm' hp' rfl
def rIdxD (K : PySem.W.Frag) : V → List V → Hp → VK → Prop := rIndexD K
def rInsert : V → List V → Hp → VK → Prop := fun x vs H Q => ∃ (l : Addr) (xs : List V) (i : Int) (y : V), x = .ref l ∧ vs = [.int i, y] ∧ H l = some (.lst xs) ∧ xs.length < sizeLine ∧ 0 ≤ i ∧ i < 2 ^ 63 ∧
    Q .non (upd H l (.lst (xs.take i.toNat ++ [y] ++ xs.drop i.toNat)))
theorem mt_insertR {X : Cx} : MtR X "list.insert" rInsert := mt_insert
theorem i_insert {l : Addr} {xs : List V} {i : Nat} {y : V} {H : Hp} {Q : VK} (h : H l = some (.lst xs)) (hl : xs.length < 16777216) (hi : i < 2 ^ 62) (q : Q .non (upd H l (.lst (xs.take i ++ [y] ++ xs.drop i)))) : rInsert (.ref l) [.int (i : Int), y] H Q := ⟨l, xs, i, y, rfl, rfl, h, szlt hl, by omega, by omega, by rw [Int.toNat_natCast]; exact q⟩
end U
namespace U
open PySem PySem.Spec PyProof.Rows L2
theorem units65 {k : Nat} {A : Around} (r : Room k A) : A.units + 65 < cLine := by
  have := r.un
  omega
theorem mt_indexDK {X : Cx} (K : PySem.W.Frag) (h : X.K = K) (hu : X.A.units + 65 < cLine) : MtR X "list.index" (rIndexD K) := by
  subst h
  exact mt_indexD hu
end U
namespace U
open PySem PySem.Spec PyProof.Rows L2
theorem inV_neg : ∀ ns : List Nat, inV (.int (-1)) (ns.map vn) = false
  | [] => rfl
  | a :: ns => by
    have ih := inV_neg ns
    unfold inV at ih ⊢
    rw [List.map_cons, List.any_cons, ih, Bool.or_false]
    show ((a : Int) == (-1 : Int)) = false
    rw [beq_eq_false_iff_ne]
    omega
theorem i_inNeg {K : PySem.W.Frag} {H : Hp} {Q : VK} {p : Addr} {t : Bool} {ns : List Nat} (h : H p = some (sq t (ns.map vn))) (q : Q (.bl false) H) : rIn K false (.int (-1)) (.ref p) H Q := by
  refine ⟨p, ns.map vn, rfl, ?_, rfl, flat_ints ns, ?_⟩
  · cases t with
    | false => exact .inl (SqL.of h)
    | true => exact .inr (SqT.of h)
  · rw [inV_neg ns]
    exact q
end U
namespace U
open PySem PySem.Spec PyProof.Rows L2
section
variable {C : Addr} {T : AS} {H : Hp} {p D : Addr} {al : List Nat} {rs : Rws} {gd ns : List Nat} {o : HO}
theorem IntsT.upd (h : IntsT T H p ns) (n : ∀ vs, H D ≠ some (.tup vs)) : IntsT T (upd H D o) p ns := ⟨h.1, by
  rw [upd_ne (fun e => n _ (by rw [← e]; exact h.2))]
  exact h.2⟩
theorem RowsT.upd (h : RowsT T H p rs) (n : ∀ vs, H D ≠ some (.tup vs)) : RowsT T (upd H D o) p rs := by
  obtain ⟨h1, as, h2, h3⟩ := h
  refine ⟨h1, as, ?_, Paired.mapP h3 fun _ _ z => z.upd n⟩
  rw [upd_ne (fun e => n _ (by rw [← e]; exact h2))]
  exact h2
theorem Rd.upd (h : Rd C T H p al rs gd) (n : ∀ vs, H D ≠ some (.tup vs)) (n2 : ∀ C dx fs, H D ≠ some (.ins C dx fs)) : Rd C T (upd H D o) p al rs gd := by
  obtain ⟨h1, dx, pm, pg, h2, h3, h4⟩ := h
  refine ⟨h1, dx, pm, pg, ?_, h3.upd n, h4.upd n⟩
  rw [upd_ne (fun e => n2 _ _ _ (by rw [← e]; exact h2))]
  exact h2
end
/-- a form: rows and good rooms as data -/
def Frm (H : Hp) (p : Addr) (rs : Rws) (gd : List Nat) : Prop := ∃ pm pg, H p = some (.tup [.ref pm, .ref pg]) ∧ RowsT (fun _ => False) H pm rs ∧ IntsT (fun _ => False) H pg gd
theorem Frm.same {H H' : Hp} {p : Addr} {rs : Rws} {gd : List Nat} (h : Frm H p rs gd) (s : Same H H') : Frm H' p rs gd := let ⟨pm, pg, h1, h2, h3⟩ := h; ⟨pm, pg, s _ _ h1, h2.same s, h3.same s⟩
theorem Frm.ev {S : AS} {H H' : Hp} {p : Addr} {rs : Rws} {gd : List Nat} (h : Frm H p rs gd) (hS : Srcs S H) (e : Ev S H H') : Frm H' p rs gd := by
  obtain ⟨pm, pg, h1, ⟨_, as, h2, h3⟩, _, h4⟩ := h
  exact ⟨pm, pg, e.at (hS.nottup h1) h1, ⟨fun z => z, as, e.at (hS.nottup h2) h2, Paired.mapP h3 fun _ _ z => ⟨fun z => z, e.at (hS.nottup z.2) z.2⟩⟩, fun z => z, e.at (hS.nottup h4) h4⟩
def dFrm (rs : Rws) (gd : List Nat) : PyData := .tuple [dRows rs, dInts gd]
theorem Frm.dp {K : PySem.W.Frag} {H : Hp} {p : Addr} {rs : Rws} {gd : List Nat} (h : Frm H p rs gd) : Dp K H (.ref p) (dFrm rs gd) := by
  obtain ⟨pm, pg, h1, h2, h3⟩ := h
  exact .tup (SqT.of h1) (.cons h2.dp (.cons h3.dp .nil))
theorem eqv_dFrm (a b : Rws) (g h : List Nat) : PyData.eqv (dFrm a g) (dFrm b h) = decide (a = b ∧ g = h) := by
  unfold dFrm
  rw [PyData.eqv, PyData.eqvAll, PyData.eqvAll, PyData.eqvAll, eqv_dRows, eqv_dInts, Bool.and_true]
  by_cases h1 : a = b <;> by_cases h2 : g = h <;> simp [h1, h2]
theorem shaped_dFrm (a : Rws) (g : List Nat) : SeqAt.shaped (dFrm a g) = true := by
  have h1 := lay_rows a
  have h2 := lay_ints g
  unfold SeqAt.shaped dFrm
  simp only [dRows, dInts, PyData.canLay0, PyData.canLayAll0, PyData.depth, PyData.depthAll, h1.1, h2.1, h2.2, Bool.true_and, Bool.and_true]
  have h3 : (PyData.canLayAll0 (List.map dInts a)) = true := h1.1
  have h4 : (PyData.depthAll (List.map dInts a)) ≤ 1 := h1.2
  exact decide_eq_true (by omega)
section
variable {K : PySem.W.Frag} {H : Hp} {p q : Addr} {a b : Rws} {g h : List Nat} {Q : VK}
theorem i_eqFrm (h1 : Frm H p a g) (h2 : Frm H q b h) (k : Q (.bl (decide (a = b ∧ g = h))) H) : rEqD K (.ref p) (.ref q) H Q := ⟨_, _, h1.dp, h2.dp, shaped_dFrm _ _, shaped_dFrm _ _, by rw [eqv_dFrm]; exact k⟩
theorem i_neFrm (h1 : Frm H p a g) (h2 : Frm H q b h) (k : Q (.bl (!decide (a = b ∧ g = h))) H) : rNeD K (.ref p) (.ref q) H Q := ⟨_, _, h1.dp, h2.dp, shaped_dFrm _ _, shaped_dFrm _ _, by rw [eqv_dFrm]; exact k⟩
end
end U
namespace U
open PySem PySem.Spec PyProof.Rows L2
theorem Frm.upd {H : Hp} {p D : Addr} {o : HO} {rs : Rws} {gd : List Nat} (h : Frm H p rs gd) (n : ∀ vs, H D ≠ some (.tup vs)) : Frm (upd H D o) p rs gd := by
  obtain ⟨pm, pg, h1, h2, h3⟩ := h
  refine ⟨pm, pg, ?_, h2.upd n, h3.upd n⟩
  rw [upd_ne (fun e => n _ (by rw [← e]; exact h1))]
  exact h1
end U
namespace U
open PySem
section
variable {m : Nat} {rs : Rws} {mk : Nat → Bool} {o : List Nat}
/-- all that the rooms of o lead to is in o -/
structure Cl (m : Nat) (rs : Rws) (o : List Nat) : Prop where
  lt : ∀ r ∈ o, r < rs.length
  cl : ∀ r ∈ o, ∀ t ∈ row rs r, t ∈ o
theorem Cl.stp (w : WFB m rs) (c : Cl m rs o) {r a : Nat} (hr : r ∈ o) (ha : a < m) : stp rs r a ∈ o := c.cl r hr _ (List.mem_of_getElem? (w.stp_at (c.lt r hr) ha))
theorem sigA_fst {k p q : Nat} (h : sigA rs mk o (k + 1) p = sigA rs mk o (k + 1) q) : clsA rs mk o k p = clsA rs mk o k q := by
  simp only [sigA] at h
  injection h with h
  rw [List.cons.injEq] at h
  exact nkN_inj h.1
theorem sigA_snd {k p q : Nat} (h : sigA rs mk o (k + 1) p = sigA rs mk o (k + 1) q) : (row rs p).map (clsA rs mk o k) = (row rs q).map (clsA rs mk o k) := by
  simp only [sigA] at h
  injection h with h
  rw [List.cons.injEq, List.cons.injEq] at h
  have h2 := h.2.1
  injection h2 with h2
  have e : ∀ r : Nat, (row rs r).map (fun t => nkN (clsA rs mk o k t)) = ((row rs r).map (clsA rs mk o k)).map nkN := fun r => by rw [List.map_map]; rfl
  rw [e, e] at h2
  exact nk_map_inj h2
theorem clsA_sig {k p q : Nat} (hp : p ∈ o) (hq : q ∈ o) (h : clsA rs mk o k p = clsA rs mk o k q) : sigA rs mk o k p = sigA rs mk o k q := by
  rw [clsA_eq, clsA_eq] at h
  exact num_inj hp hq h
theorem sig_clsA {k p q : Nat} (h : sigA rs mk o k p = sigA rs mk o k q) : clsA rs mk o k p = clsA rs mk o k q := by
  rw [clsA_eq, clsA_eq]
  unfold num
  rw [h]
theorem nkB_inj {a b : Bool} (h : nkB a = nkB b) : a = b := by
  unfold nkB at h
  injection h with h
  cases a <;> cases b <;> simp at h <;> rfl
theorem clsA_mk : ∀ (k : Nat) {p q : Nat}, p ∈ o → q ∈ o → clsA rs mk o k p = clsA rs mk o k q → mk p = mk q
  | 0, p, q, hp, hq, h => by
    have z := clsA_sig hp hq h
    simp only [sigA] at z
    injection z with z
    rw [List.cons.injEq] at z
    exact nkB_inj z.1
  | k + 1, p, q, hp, hq, h => clsA_mk k hp hq (sigA_fst (clsA_sig hp hq h))
/-- same texts, same class -/
theorem lang_clsA {gd : List Nat} (w : WFB m rs) (c : Cl m rs o) (hmk : mk = fun r => decide (r ∈ gd)) : ∀ (k : Nat) {p q : Nat}, p ∈ o → q ∈ o → LangEq m rs gd p rs gd q → sigA rs mk o k p = sigA rs mk o k q
  | 0, p, q, hp, hq, h => by
    simp only [sigA]
    have : mk p = mk q := by
      rw [hmk]
      exact decide_eq_decide.mpr h.here
    rw [this]
  | k + 1, p, q, hp, hq, h => by
    have h1 := sig_clsA (lang_clsA w c hmk k hp hq h)
    have h2 : (row rs p).map (fun t => nkN (clsA rs mk o k t)) = (row rs q).map (fun t => nkN (clsA rs mk o k t)) := by
      refine List.ext_getElem (by rw [List.length_map, List.length_map, w.row_len (c.lt p hp), w.row_len (c.lt q hq)]) fun a ha1 ha2 => ?_
      rw [List.length_map, w.row_len (c.lt p hp)] at ha1
      rw [List.getElem_map, List.getElem_map]
      have e1 : (row rs p)[a]'(by rw [w.row_len (c.lt p hp)]; exact ha1) = stp rs p a := by
        have := w.stp_at (c.lt p hp) ha1
        exact (List.getElem?_eq_some_iff.mp this).2
      have e2 : (row rs q)[a]'(by rw [w.row_len (c.lt q hq)]; exact ha1) = stp rs q a := by
        have := w.stp_at (c.lt q hq) ha1
        exact (List.getElem?_eq_some_iff.mp this).2
      rw [e1, e2, sig_clsA (lang_clsA w c hmk k (c.stp w hp ha1) (c.stp w hq ha1) (h.step ha1))]
    simp only [sigA]
    rw [h1, h2]
/-- where the parting stands still -/
structure Still (rs : Rws) (mk : Nat → Bool) (o : List Nat) (j : Nat) : Prop where
  le : cnt o (sigA rs mk o (j + 1)) ≤ cnt o (sigA rs mk o j)
theorem Still.up {j : Nat} (s : Still rs mk o j) {p q : Nat} (hp : p ∈ o) (hq : q ∈ o) (h : clsA rs mk o j p = clsA rs mk o j q) : sigA rs mk o (j + 1) p = sigA rs mk o (j + 1) q := by
  have e : clsA rs mk o j = num o (sigA rs mk o j) := funext fun r => clsA_eq rs mk o j r
  refine cnt_eq (s := sigA rs mk o (j + 1)) (u := clsA rs mk o j) (rooms := o) (fun _ _ _ _ z => sigA_fst z) ?_ p hp q hq h
  rw [e, cnt_num]
  exact s.le
theorem Still.step {j : Nat} (w : WFB m rs) (c : Cl m rs o) (s : Still rs mk o j) {p q a : Nat} (hp : p ∈ o) (hq : q ∈ o) (ha : a < m) (h : clsA rs mk o j p = clsA rs mk o j q) : clsA rs mk o j (stp rs p a) = clsA rs mk o j (stp rs q a) :=
  map_getD (sigA_snd (s.up hp hq h)) (by rw [w.row_len (c.lt p hp)]; exact ha) (by rw [w.row_len (c.lt q hq)]; exact ha)
theorem Still.lang {gd : List Nat} {j : Nat} (w : WFB m rs) (c : Cl m rs o) (s : Still rs mk o j) (hmk : mk = fun r => decide (r ∈ gd)) {p q : Nat} (hp : p ∈ o) (hq : q ∈ o) (h : clsA rs mk o j p = clsA rs mk o j q) : LangEq m rs gd p rs gd q :=
  rel_lang (fun x y => x ∈ o ∧ y ∈ o ∧ clsA rs mk o j x = clsA rs mk o j y) (fun x y ⟨hx, hy, e⟩ => by
    have := clsA_mk j hx hy e
    rw [hmk] at this
    exact decide_eq_decide.mp this) (fun x y a ⟨hx, hy, e⟩ ha => ⟨c.stp w hx ha, c.stp w hy ha, s.step w c hx hy ha e⟩) ⟨hp, hq, h⟩
/-- the class behind one round more tells the same -/
theorem Still.g {j : Nat} (s : Still rs mk o j) {p q : Nat} (hp : p ∈ o) (hq : q ∈ o) : clsA rs mk o (j + 1) p = clsA rs mk o (j + 1) q ↔ clsA rs mk o j p = clsA rs mk o j q :=
  ⟨fun h => sigA_fst (clsA_sig hp hq h), fun h => sig_clsA (s.up hp hq h)⟩
end
theorem dd_map_addsN {f : Nat → Nat} (l ts : List Nat) : dd ((addsN l ts).map f) = addsN (dd (l.map f)) (ts.map f) := by
  induction ts using rev_ind with
  | h0 => rfl
  | hs ts t ih =>
    rw [addsN_snoc, List.map_append, List.map_singleton, addsN_snoc, ← ih]
    unfold addN
    by_cases h : t ∈ addsN l ts
    · rw [if_pos h, if_pos (mem_dd.mpr (List.mem_map.mpr ⟨t, h, rfl⟩))]
    · rw [if_neg h, List.map_append, List.map_singleton, dd_snoc]
      rfl
theorem dd_of_nodup {α : Type} [DecidableEq α] : ∀ {l : List α}, l.Nodup → dd l = l := fun {l} => by
  induction l using rev_ind with
  | h0 => exact fun _ => rfl
  | hs l x ih =>
    intro h
    rw [List.nodup_append] at h
    rw [dd_snoc, ih h.1, addN, if_neg (fun hx => h.2.2 x hx x (List.mem_singleton.mpr rfl) rfl)]
theorem split_at' {l : List Nat} {i : Nat} {x : Nat} (h : l[i]? = some x) : l = l.take i ++ x :: l.drop (i + 1) := by
  obtain ⟨hi, e⟩ := List.getElem?_eq_some_iff.mp h
  rw [← e, ← List.drop_eq_getElem_cons hi, List.take_append_drop]
theorem dd_app (l k : List Nat) : dd (l ++ k) = addsN (dd l) k := addsN_app [] l k
theorem scan_map {A B : Rws} {f : Nat → Nat} (h0 : f 0 = 0) (hrow : ∀ k, ∀ r ∈ scanAt A k, row B (f r) = (row A r).map f) : ∀ k, dd ((scanAt A k).map f) = scanAt B (dd (((scanAt A k).take k).map f)).length
  | 0 => by
    show dd [f 0] = scanAt B 0
    rw [h0]
    rfl
  | k + 1 => by
    have ih := scan_map h0 hrow k
    by_cases hk : k < (scanAt A k).length
    · obtain ⟨r, hr⟩ : ∃ r, (scanAt A k)[k]? = some r := ⟨_, List.getElem?_eq_getElem hk⟩
      have hrm := List.mem_of_getElem? hr
      have e1 : scanAt A (k + 1) = addsN (scanAt A k) (row A r) := by
        show addsN (scanAt A k) (row A ((scanAt A k).getD k 0)) = _
        rw [List.getD_eq_getElem?_getD, hr]
        rfl
      have e2 : (scanAt A (k + 1)).take (k + 1) = (scanAt A k).take k ++ [r] := by
        obtain ⟨l, e⟩ := scan_step (rs := A) k
        rw [e, List.take_append_of_le_length hk, take_at hr]
      rw [e2, List.map_append, List.map_singleton, dd_snoc, e1, dd_map_addsN]
      by_cases hin : f r ∈ dd (((scanAt A k).take k).map f)
      · rw [addN, if_pos hin, ← ih]
        refine addsN_same fun t ht => ?_
        obtain ⟨u, hu, rfl⟩ := List.mem_map.mp ht
        obtain ⟨r', hr', e⟩ := List.mem_map.mp (mem_dd.mp hin)
        obtain ⟨q, hq⟩ := List.mem_iff_getElem?.mp hr'
        have hq1 : q < k := by
          have := (List.getElem?_eq_some_iff.mp hq).1
          rw [List.length_take] at this
          omega
        rw [List.getElem?_take, if_pos hq1] at hq
        have hm : f u ∈ (row A r').map f := by
          rw [← hrow k r' (List.mem_of_getElem? hq), e, hrow k r hrm]
          exact List.mem_map.mpr ⟨u, hu, rfl⟩
        obtain ⟨v, hv, e'⟩ := List.mem_map.mp hm
        exact mem_dd.mpr (List.mem_map.mpr ⟨v, scan_row hq1 (scan_at hq1 hq) hv, e'⟩)
      · rw [addN, if_neg hin, List.length_append]
        show _ = scanAt B ((dd (((scanAt A k).take k).map f)).length + 1)
        show _ = addsN (scanAt B (dd (((scanAt A k).take k).map f)).length) (row B ((scanAt B (dd (((scanAt A k).take k).map f)).length).getD (dd (((scanAt A k).take k).map f)).length 0))
        rw [← ih]
        have e3 : (dd ((scanAt A k).map f))[(dd (((scanAt A k).take k).map f)).length]? = some (f r) := by
          have e4 : (scanAt A k).map f = ((scanAt A k).take k).map f ++ f r :: ((scanAt A k).drop (k + 1)).map f := by
            conv => lhs; rw [split_at' hr]
            rw [List.map_append, List.map_cons]
          have e5 : ((scanAt A k).take k).map f ++ f r :: ((scanAt A k).drop (k + 1)).map f = (((scanAt A k).take k).map f ++ [f r]) ++ ((scanAt A k).drop (k + 1)).map f := by simp
          rw [e4, e5, dd_app, dd_snoc, addN, if_neg hin]
          obtain ⟨l, hl⟩ := addsN_pre (dd (((scanAt A k).take k).map f) ++ [f r]) (((scanAt A k).drop (k + 1)).map f)
          rw [hl, List.append_assoc, List.getElem?_append_right (Nat.le_refl _), Nat.sub_self]
          rfl
        rw [List.getD_eq_getElem?_getD, e3]
        show _ = addsN _ (row B (f r))
        rw [hrow k r hrm]
    · have e1 := scan_stuck (rs := A) (Nat.le_of_not_lt hk)
      rw [e1, List.take_of_length_le (by omega)]
      rw [List.take_of_length_le (Nat.le_of_not_lt hk)] at ih
      exact ih
end U
namespace U
open PySem
theorem pl_map_range {l : List Nat} (h : l.Nodup) : l.map (pl l) = List.range l.length := by
  refine List.ext_getElem (by rw [List.length_map, List.length_range]) fun i h1 h2 => ?_
  rw [List.length_map] at h1
  rw [List.getElem_map, List.getElem_range]
  have h3 := pl_at (List.getElem_mem h1)
  obtain ⟨h4, h5⟩ := List.getElem?_eq_some_iff.mp h3
  have pw := List.pairwise_iff_getElem.mp h
  rcases Nat.lt_trichotomy (pl l l[i]) i with z | z | z
  · exact (pw _ i h4 h1 z h5).elim
  · exact z
  · exact (pw i _ h1 h4 z h5.symm).elim
section
variable {m : Nat} {rs : Rws} {gd : List Nat} {i j : Nat}
theorem scan_cl (w : WFB m rs) (hi : (scanAt rs i).length = i) : Cl m rs (scanAt rs i) := ⟨w.scan_lt i, fun r hr t ht => scan_closed (by omega) hr ht⟩
/-- the room of the least table in which r is -/
def cl0 (o : List Nat) (g : Nat → Nat) (r : Nat) : Nat := num o g r
theorem head_of {o : List Nat} {g : Nat → Nat} {r : Nat} (hr : r ∈ o) : ∃ h, (headsOf o g)[num o g r]? = some h ∧ h ∈ o ∧ g h = g r := by
  have h1 : g r ∈ dd (o.map g) := mem_dd.mpr (List.mem_map.mpr ⟨r, hr, rfl⟩)
  have h2 := pl_at h1
  rw [← heads_map] at h2
  obtain ⟨h, hh, e⟩ : ∃ h, (headsOf o g)[pl ((headsOf o g).map g) (g r)]? = some h ∧ g h = g r := by
    rw [List.getElem?_map] at h2
    cases q : (headsOf o g)[pl ((headsOf o g).map g) (g r)]? with
    | none => rw [q] at h2; cases h2
    | some h => rw [q] at h2; exact ⟨h, rfl, Option.some.inj h2⟩
  rw [heads_map] at hh
  exact ⟨h, hh, heads_mem (List.mem_of_getElem? hh), e⟩
theorem num_congr {o : List Nat} {g : Nat → Nat} {r s : Nat} (h : g r = g s) : num o g r = num o g s := by
  unfold num
  rw [h]
theorem map_at'' {xs : List Nat} {f : Nat → Nat} {i x : Nat} (h : xs[i]? = some x) : (xs.map f)[i]? = some (f x) := by
  rw [List.getElem?_map, h]
  rfl
theorem num_heads {o : List Nat} {g : Nat → Nat} {p h : Nat} (hp : (headsOf o g)[p]? = some h) : num o g h = p := by
  have h1 : (dd (o.map g))[p]? = some (g h) := by
    rw [← heads_map]
    exact map_at'' hp
  have h2 : g h ∈ dd (o.map g) := List.mem_of_getElem? h1
  have h3 := pl_at h2
  obtain ⟨a1, a2⟩ := List.getElem?_eq_some_iff.mp h1
  obtain ⟨b1, b2⟩ := List.getElem?_eq_some_iff.mp h3
  have pw := List.pairwise_iff_getElem.mp (nd_dd (o.map g))
  rcases Nat.lt_trichotomy (pl (dd (o.map g)) (g h)) p with z | z | z
  · exact (pw _ p b1 a1 z (b2.trans a2.symm)).elim
  · exact z
  · exact (pw p _ a1 b1 z (a2.trans b2.symm)).elim
theorem row_map_eq (w : WFB m rs) {p q : Nat} {f : Nat → Nat} (hp : p < rs.length) (hq : q < rs.length) (h : ∀ a, a < m → f (stp rs p a) = f (stp rs q a)) : (row rs p).map f = (row rs q).map f := by
  refine List.ext_getElem (by rw [List.length_map, List.length_map, w.row_len hp, w.row_len hq]) fun a ha1 ha2 => ?_
  rw [List.length_map, w.row_len hp] at ha1
  rw [List.getElem_map, List.getElem_map]
  have e1 : (row rs p)[a]'(by rw [w.row_len hp]; exact ha1) = stp rs p a := (List.getElem?_eq_some_iff.mp (w.stp_at hp ha1)).2
  have e2 : (row rs q)[a]'(by rw [w.row_len hq]; exact ha1) = stp rs q a := (List.getElem?_eq_some_iff.mp (w.stp_at hq ha1)).2
  rw [e1, e2, h a ha1]
theorem stp_of_row {A : Rws} {p a : Nat} {l : List Nat} {f : Nat → Nat} (h : row A p = l.map f) {v : Nat} (ha : l[a]? = some v) : stp A p a = f v := by
  unfold stp
  rw [h, List.getD_eq_getElem?_getD, List.getElem?_map, ha]
  rfl
end
/-- what least tells -/
structure LeastOf (rs : Rws) (gd : List Nat) (A : Rws) (gA : List Nat) : Prop where
  ex : ∃ (j i : Nat) (o : List Nat) (g : Nat → Nat), o = scanAt rs i ∧ o.length = i ∧ cnt o (sigA rs (fun r => decide (r ∈ gd)) o (j + 1)) ≤ cnt o (sigA rs (fun r => decide (r ∈ gd)) o j) ∧ g = clsA rs (fun r => decide (r ∈ gd)) o (j + 1) ∧ A = lrows rs o g ∧ gA = lgood (fun r => decide (r ∈ gd)) o g
section
variable {m : Nat} {rs A : Rws} {gd gA : List Nat}
theorem LeastOf.main (w : WFB m rs) (h : LeastOf rs gd A gA) : WFB m A ∧ GOK A.length gA ∧ LangEq m rs gd 0 A gA 0 ∧ Canon m A gA := by
  obtain ⟨j, i, o, g, ho, hi, hs, hg, hA, hgA⟩ := h.ex
  have hi' : (scanAt rs i).length = i := by rw [← ho]; exact hi
  have c : Cl m rs o := by rw [ho]; exact scan_cl w hi'
  have s : Still rs (fun r => decide (r ∈ gd)) o j := ⟨hs⟩
  have hwA : WFB m A := by rw [hA, ho]; exact w.lrows hi' g
  have hAl : A.length = (headsOf o g).length := by rw [hA]; exact lrows_len rs o g
  have hgok : GOK A.length gA := by rw [hAl, hgA]; exact GOK.filter _
  have gq : ∀ {p q : Nat}, p ∈ o → q ∈ o → (g p = g q ↔ clsA rs (fun r => decide (r ∈ gd)) o j p = clsA rs (fun r => decide (r ∈ gd)) o j q) := fun hp hq => by rw [hg]; exact s.g hp hq
  -- rows of the least table
  have hrow : ∀ r ∈ o, row A (num o g r) = (row rs r).map (num o g) := fun r hr => by
    obtain ⟨h, hh, hho, e⟩ := head_of hr
    have e1 : A[num o g r]? = some ((row rs h).map (num o g)) := by
      rw [hA]
      unfold lrows
      rw [List.getElem?_map, hh]
      rfl
    have e2 : row A (num o g r) = (row rs h).map (num o g) := by
      unfold row
      rw [List.getD_eq_getElem?_getD, e1]
      rfl
    rw [e2]
    refine row_map_eq w (c.lt h hho) (c.lt r hr) fun a ha => num_congr ?_
    rw [gq (c.stp w hho ha) (c.stp w hr ha)]
    exact s.step w c hho hr ha ((gq hho hr).mp e)
  have hstp : ∀ r ∈ o, ∀ a, a < m → stp A (num o g r) a = num o g (stp rs r a) := fun r hr a ha => stp_of_row (hrow r hr) (w.stp_at (c.lt r hr) ha)
  have hgood : ∀ r ∈ o, (r ∈ gd ↔ num o g r ∈ gA) := fun r hr => by
    obtain ⟨h, hh, hho, e⟩ := head_of hr
    have hlt := (List.getElem?_eq_some_iff.mp hh).1
    have e1 : (lmarks (fun r => decide (r ∈ gd)) o g).getD (num o g r) false = decide (h ∈ gd) := by
      unfold lmarks
      rw [List.getD_eq_getElem?_getD, List.getElem?_map, hh]
      rfl
    have e2 : (decide (h ∈ gd)) = decide (r ∈ gd) := clsA_mk j hho hr ((gq hho hr).mp e)
    rw [hgA]
    unfold lgood
    rw [List.mem_filter, List.mem_range, e1, e2, decide_eq_true_eq]
    exact ⟨fun z => ⟨hlt, z⟩, fun z => z.2⟩
  have h0o : 0 ∈ o := by rw [ho]; exact scan_has0 i
  have hnum0 : num o g 0 = 0 := by
    have e1 : o[0]? = some 0 := by rw [ho]; exact scan0 rs i
    have e2 : o = [0] ++ o.drop 1 := by
      have := split_at' e1
      rw [List.take_zero, List.nil_append] at this
      exact this
    unfold num
    obtain ⟨l, hl⟩ : ∃ l, dd (o.map g) = [g 0] ++ l := by
      rw [e2, List.map_append, dd_app]
      exact addsN_pre _ _
    rw [hl]
    unfold pl
    rw [List.idxOf_append, if_pos (List.mem_singleton.mpr rfl)]
    simp
  have hlang : ∀ r ∈ o, LangEq m rs gd r A gA (num o g r) := fun r hr =>
    rel_lang (fun x y => x ∈ o ∧ y = num o g x) (fun x y ⟨hx, e⟩ => by rw [e]; exact hgood x hx) (fun x y a ⟨hx, e⟩ ha => ⟨c.stp w hx ha, by rw [e]; exact hstp x hx a ha⟩) ⟨hr, rfl⟩
  refine ⟨hwA, hgok, ?_, ?_, ?_⟩
  · have := hlang 0 h0o
    rw [hnum0] at this
    exact this
  · -- order
    have hmap := scan_map (A := rs) (B := A) (f := num o g) hnum0 (fun k r hr => hrow r (by
      rw [ho]
      by_cases hk : k ≤ i
      · exact scan_sub hk hr
      · rw [scan_full (rs := rs) (k := i) (by omega) (by omega)] at hr
        exact hr)) i
    rw [← ho, List.take_of_length_le (by omega)] at hmap
    have e1 : dd (o.map (num o g)) = List.range (headsOf o g).length := by
      have e2 : o.map (num o g) = (o.map g).map (pl (dd (o.map g))) := by
        rw [List.map_map]
        rfl
      rw [e2, dd_map_on (o.map g) fun x hx y hy h => pl_inj (mem_dd.mpr hx) (mem_dd.mpr hy) h, pl_map_range (nd_dd _), heads_len]
    rw [e1, List.length_range, ← hAl] at hmap
    exact hmap.symm
  · intro p q hp hq hpq
    obtain ⟨hp1, ep⟩ : ∃ h, (headsOf o g)[p]? = some h := ⟨_, List.getElem?_eq_getElem (by rw [← hAl]; exact hp)⟩
    obtain ⟨hq1, eq⟩ : ∃ h, (headsOf o g)[q]? = some h := ⟨_, List.getElem?_eq_getElem (by rw [← hAl]; exact hq)⟩
    have hpo := heads_mem (List.mem_of_getElem? ep)
    have hqo := heads_mem (List.mem_of_getElem? eq)
    have np := num_heads ep
    have nq := num_heads eq
    have l1 := hlang hp1 hpo
    have l2 := hlang hq1 hqo
    rw [np] at l1
    rw [nq] at l2
    have l3 : LangEq m rs gd hp1 rs gd hq1 := l1.trans (hpq.trans l2.symm)
    have e : g hp1 = g hq1 := by
      rw [hg]
      exact sig_clsA (lang_clsA w c rfl (j + 1) hpo hqo l3)
    rw [← np, ← nq]
    exact num_congr e
end
theorem scan_word {m : Nat} {rs : Rws} (w : WFB m rs) : ∀ (k : Nat), ∀ r ∈ scanAt rs k, ∃ l : List Nat, (∀ a ∈ l, a < m) ∧ run rs 0 l = r
  | 0, r, h => ⟨[], by simp, (List.mem_singleton.mp h).symm⟩
  | k + 1, r, h => by
    have h' : r ∈ addsN (scanAt rs k) (row rs ((scanAt rs k).getD k 0)) := h
    rcases mem_addsN.mp h' with z | z
    · exact scan_word w k r z
    · have hq : ∃ q, q ∈ scanAt rs k ∧ r ∈ row rs q := by
        rw [List.getD_eq_getElem?_getD] at z
        cases e : (scanAt rs k)[k]? with
        | none => rw [e] at z; exact ⟨0, scan_has0 k, z⟩
        | some q => rw [e] at z; exact ⟨q, List.mem_of_getElem? e, z⟩
      obtain ⟨q, hq1, hq2⟩ := hq
      obtain ⟨l, hl1, hl2⟩ := scan_word w k q hq1
      obtain ⟨a, ha⟩ := List.mem_iff_getElem?.mp hq2
      have ham : a < m := by
        have := (List.getElem?_eq_some_iff.mp ha).1
        rwa [w.row_len (w.scan_lt k q hq1)] at this
      refine ⟨l ++ [a], fun b hb => ?_, ?_⟩
      · rcases List.mem_append.mp hb with y | y
        · exact hl1 b y
        · rw [List.mem_singleton.mp y]; exact ham
      · rw [run_snoc, hl2]
        unfold stp
        rw [List.getD_eq_getElem?_getD, ha]
        rfl
theorem LangEq.word {m : Nat} {A : Rws} {gA : List Nat} {p : Nat} {B : Rws} {gB : List Nat} {q : Nat} (h : LangEq m A gA p B gB q) : ∀ {l : List Nat}, (∀ a ∈ l, a < m) → LangEq m A gA (run A p l) B gB (run B q l) := fun {l} hl w hw => by
  rw [← run_app, ← run_app]
  exact h (l ++ w) fun a ha => (List.mem_append.mp ha).elim (hl a) (hw a)
section
variable {m : Nat} {A B : Rws} {gA gB : List Nat}
theorem canon_ex (wA : WFB m A) (wB : WFB m B) (cA : Canon m A gA) (h : LangEq m A gA 0 B gB 0) {p : Nat} (hp : p < A.length) : ∃ q, q < B.length ∧ LangEq m A gA p B gB q := by
  have hm : p ∈ scanAt A A.length := by rw [cA.ord]; exact List.mem_range.mpr hp
  obtain ⟨l, hl1, hl2⟩ := scan_word wA A.length p hm
  refine ⟨run B 0 l, wB.run_lt wB.pos hl1, ?_⟩
  have := h.word hl1
  rwa [hl2] at this
noncomputable def cf (m : Nat) (A : Rws) (gA : List Nat) (B : Rws) (gB : List Nat) (p : Nat) : Nat := open Classical in if h : ∃ q, q < B.length ∧ LangEq m A gA p B gB q then h.choose else 0
theorem cf_ok (wA : WFB m A) (wB : WFB m B) (cA : Canon m A gA) (h : LangEq m A gA 0 B gB 0) {p : Nat} (hp : p < A.length) : cf m A gA B gB p < B.length ∧ LangEq m A gA p B gB (cf m A gA B gB p) := by
  have e := canon_ex wA wB cA h hp
  unfold cf
  rw [dif_pos e]
  exact e.choose_spec
theorem canon_le (wA : WFB m A) (wB : WFB m B) (cA : Canon m A gA) (h : LangEq m A gA 0 B gB 0) : A.length ≤ B.length := by
  have z : ((List.range A.length).map (cf m A gA B gB)).Nodup := by
    have inj : ∀ x ∈ List.range A.length, ∀ y ∈ List.range A.length, cf m A gA B gB x = cf m A gA B gB y → x = y := fun x hx y hy e => by
      rw [List.mem_range] at hx hy
      have h1 := (cf_ok wA wB cA h hx).2
      have h2 := (cf_ok wA wB cA h hy).2
      rw [← e] at h2
      exact cA.sep x y hx hy (h1.trans h2.symm)
    have e := dd_map_on (f := cf m A gA B gB) (List.range A.length) inj
    rw [dd_of_nodup ((range_inc _).imp fun z => Nat.ne_of_lt z)] at e
    rw [← e]
    exact nd_dd _
  have := nodup_le z fun x hx => by
    obtain ⟨p, hp, rfl⟩ := List.mem_map.mp hx
    exact (cf_ok wA wB cA h (List.mem_range.mp hp)).1
  rwa [List.length_map, List.length_range] at this
theorem sorted_ext : ∀ {a b : List Nat}, a.Pairwise (· < ·) → b.Pairwise (· < ·) → (∀ x, x ∈ a ↔ x ∈ b) → a = b
  | [], [], _, _, _ => rfl
  | [], y :: b, _, _, h => by
    have := (h y).mpr (List.mem_cons_self ..)
    cases this
  | x :: a, [], _, _, h => by
    have := (h x).mp (List.mem_cons_self ..)
    cases this
  | x :: a, y :: b, ha, hb, h => by
    rw [List.pairwise_cons] at ha hb
    have e : x = y := by
      rcases List.mem_cons.mp ((h x).mp (List.mem_cons_self ..)) with z | z
      · exact z
      · rcases List.mem_cons.mp ((h y).mpr (List.mem_cons_self ..)) with u | u
        · exact u.symm
        · have h1 := hb.1 x z
          have h2 := ha.1 y u
          omega
    subst e
    rw [sorted_ext ha.2 hb.2 fun u => ?_]
    constructor
    · intro hu
      rcases List.mem_cons.mp ((h u).mp (List.mem_cons_of_mem _ hu)) with z | z
      · have := ha.1 u hu; omega
      · exact z
    · intro hu
      rcases List.mem_cons.mp ((h u).mpr (List.mem_cons_of_mem _ hu)) with z | z
      · have := hb.1 u hu; omega
      · exact z
theorem canon_uniq (wA : WFB m A) (wB : WFB m B) (oA : GOK A.length gA) (oB : GOK B.length gB) (cA : Canon m A gA) (cB : Canon m B gB) (h : LangEq m A gA 0 B gB 0) : A = B ∧ gA = gB := by
  have hlen : A.length = B.length := Nat.le_antisymm (canon_le wA wB cA h) (canon_le wB wA cB h.symm)
  have ok : ∀ {p}, p < A.length → cf m A gA B gB p < B.length ∧ LangEq m A gA p B gB (cf m A gA B gB p) := fun hp => cf_ok wA wB cA h hp
  have hun : ∀ {p q}, p < A.length → q < B.length → LangEq m A gA p B gB q → cf m A gA B gB p = q := fun hp hq e => cB.sep _ _ (ok hp).1 hq ((ok hp).2.symm.trans e)
  have h0 : cf m A gA B gB 0 = 0 := hun wA.pos wB.pos h
  have hst : ∀ {p a}, p < A.length → a < m → cf m A gA B gB (stp A p a) = stp B (cf m A gA B gB p) a := fun hp ha => hun (wA.stp_lt hp ha) (wB.stp_lt (ok hp).1 ha) ((ok hp).2.step ha)
  have hrow : ∀ {p}, p < A.length → row B (cf m A gA B gB p) = (row A p).map (cf m A gA B gB) := fun {p} hp => by
    refine List.ext_getElem (by rw [List.length_map, wB.row_len (ok hp).1, wA.row_len hp]) fun a ha1 ha2 => ?_
    have ham : a < m := by rwa [wB.row_len (ok hp).1] at ha1
    rw [List.getElem_map]
    have e1 : (row B (cf m A gA B gB p))[a] = stp B (cf m A gA B gB p) a := (List.getElem?_eq_some_iff.mp (wB.stp_at (ok hp).1 ham)).2
    have e2 : (row A p)[a]'(by rw [wA.row_len hp]; exact ham) = stp A p a := (List.getElem?_eq_some_iff.mp (wA.stp_at hp ham)).2
    rw [e1, e2, hst hp ham]
  have hmap := scan_map (A := A) (B := B) (f := cf m A gA B gB) h0 (fun k r hr => hrow (wA.scan_lt k r hr)) A.length
  rw [cA.ord, List.take_of_length_le (by rw [List.length_range]; exact Nat.le_refl _)] at hmap
  have inj : ∀ x ∈ List.range A.length, ∀ y ∈ List.range A.length, cf m A gA B gB x = cf m A gA B gB y → x = y := fun x hx y hy e => by
    rw [List.mem_range] at hx hy
    have h2 := (ok hy).2
    rw [← e] at h2
    exact cA.sep x y hx hy ((ok hx).2.trans h2.symm)
  rw [dd_map_on _ inj, dd_of_nodup ((range_inc _).imp fun z => Nat.ne_of_lt z), List.length_map, List.length_range, hlen, cB.ord] at hmap
  have hid : ∀ {p}, p < A.length → cf m A gA B gB p = p := fun {p} hp => by
    have h1 : ((List.range B.length).map (cf m A gA B gB))[p]? = (List.range B.length)[p]? := by rw [hmap]
    rw [List.getElem?_map, List.getElem?_range (by omega)] at h1
    exact Option.some.inj h1
  refine ⟨List.ext_getElem hlen fun p hp hq => ?_, sorted_ext oA.inc oB.inc fun x => ?_⟩
  · have e1 : A[p] = row A p := by
      have := row_at hp
      rw [List.getElem?_eq_getElem hp] at this
      exact Option.some.inj this
    have e2 : B[p] = row B p := by
      have := row_at hq
      rw [List.getElem?_eq_getElem hq] at this
      exact Option.some.inj this
    have e3 := hrow hp
    rw [hid hp] at e3
    rw [e1, e2, e3]
    refine (List.map_id _).symm.trans (List.map_congr_left fun t ht => ?_)
    exact (hid (wA.row_lt hp ht)).symm
  · constructor
    · intro hx
      have := (ok (oA.lt x hx)).2.here.mp hx
      rwa [hid (oA.lt x hx)] at this
    · intro hx
      have hxa : x < A.length := by rw [hlen]; exact oB.lt x hx
      refine (ok hxa).2.here.mpr ?_
      rw [hid hxa]
      exact hx
end
end U
namespace U
open PySem L2
theorem paired3 {α β : Type} {F : α → β → Prop} {xs : List α} {a b c : β} (h : Paired F xs [a, b, c]) : ∃ x y z, xs = [x, y, z] ∧ F x a ∧ F y b ∧ F z c := by
  cases h with
  | cons h1 t => cases t with
    | cons h2 t => cases t with
      | cons h3 t => cases t with
        | nil => exact ⟨_, _, _, rfl, h1, h2, h3⟩
end U
namespace U
open PySem PySem.Spec PyProof.Rows L2
section
variable {α : Type} [DecidableEq α]
/-- the places met, k of them gone through -/
def gAt (nx : α → List α) (s : α) : Nat → List α
  | 0 => [s]
  | k + 1 => addsN (gAt nx s k) (nx ((gAt nx s k).getD k s))
variable {nx : α → List α} {s : α}
theorem g_nd : ∀ k, (gAt nx s k).Nodup
  | 0 => by simp [gAt]
  | k + 1 => nd_addsN (g_nd k)
theorem g_pre (k : Nat) : ∃ m, gAt nx s (k + 1) = gAt nx s k ++ m := addsN_pre _ _
theorem g_mono (k : Nat) : ∀ j, ∃ m, gAt nx s (k + j) = gAt nx s k ++ m
  | 0 => ⟨[], by simp⟩
  | j + 1 => by
    obtain ⟨m1, e1⟩ := g_mono k j
    obtain ⟨m2, e2⟩ := g_pre (nx := nx) (s := s) (k + j)
    exact ⟨m1 ++ m2, by rw [show k + (j + 1) = k + j + 1 from rfl, e2, e1, List.append_assoc]⟩
theorem g_at {k l q : Nat} {x : α} (h : (gAt nx s k)[q]? = some x) (hl : k ≤ l) : (gAt nx s l)[q]? = some x := by
  obtain ⟨j, rfl⟩ : ∃ j, l = k + j := ⟨l - k, by omega⟩
  obtain ⟨m, e⟩ := g_mono (nx := nx) (s := s) k j
  rw [e, List.getElem?_append_left (List.getElem?_eq_some_iff.mp h).1]
  exact h
theorem g_sub {k l : Nat} (hl : k ≤ l) {x : α} (h : x ∈ gAt nx s k) : x ∈ gAt nx s l := by
  obtain ⟨q, hq⟩ := List.mem_iff_getElem?.mp h
  exact List.mem_of_getElem? (g_at hq hl)
theorem g_s (k : Nat) : (gAt nx s k)[0]? = some s := g_at (k := 0) rfl (Nat.zero_le _)
theorem g_has (k : Nat) : s ∈ gAt nx s k := List.mem_of_getElem? (g_s k)
theorem g_pos (k : Nat) : 0 < (gAt nx s k).length := (List.getElem?_eq_some_iff.mp (g_s k)).1
theorem g_inv {P : α → Prop} (h0 : P s) (hn : ∀ x, P x → ∀ y ∈ nx x, P y) : ∀ k, ∀ x ∈ gAt nx s k, P x
  | 0, x, h => by
    rw [List.mem_singleton.mp h]
    exact h0
  | k + 1, x, h => by
    rcases mem_addsN.mp h with h | h
    · exact g_inv h0 hn k x h
    · refine hn _ ?_ x h
      rw [List.getD_eq_getElem?_getD]
      cases e : (gAt nx s k)[k]? with
      | none => exact h0
      | some y => exact g_inv h0 hn k y (List.mem_of_getElem? e)
/-- a place that was gone through: its neighbours are there -/
theorem g_row {k q : Nat} {x : α} (hq : q < k) (h : (gAt nx s k)[q]? = some x) (hl : (gAt nx s q).length > q) {y : α} (hy : y ∈ nx x) : y ∈ gAt nx s k := by
  obtain ⟨z, hz⟩ : ∃ z, (gAt nx s q)[q]? = some z := ⟨_, List.getElem?_eq_getElem hl⟩
  have e := g_at hz (Nat.le_of_lt hq)
  rw [h] at e
  cases e
  refine g_sub (show q + 1 ≤ k from hq) ?_
  refine mem_addsN.mpr (.inr ?_)
  rw [List.getD_eq_getElem?_getD, hz]
  exact hy
/-- all of it was gone through, one place at a time -/
structure Done (nx : α → List α) (s : α) (k : Nat) : Prop where
  len : (gAt nx s k).length = k
  ok : ∀ q, q < k → q < (gAt nx s q).length
theorem Done.cl {k : Nat} (d : Done nx s k) {x y : α} (h : x ∈ gAt nx s k) (hy : y ∈ nx x) : y ∈ gAt nx s k := by
  obtain ⟨q, hq⟩ := List.mem_iff_getElem?.mp h
  have hlt := (List.getElem?_eq_some_iff.mp hq).1
  rw [d.len] at hlt
  exact g_row hlt hq (d.ok q hlt) hy
end
section
variable {α : Type} [DecidableEq α] {nx : α → List α} {s : α} {m : Nat}
def gRows (nx : α → List α) (o : List α) : Rws := o.map fun x => (nx x).map (pl o)
theorem gRows_len (nx : α → List α) (o : List α) : (gRows nx o).length = o.length := List.length_map ..
theorem gRows_wf {k : Nat} (d : Done nx s k) (hk : k ≤ 4000) (hm : m ≤ 3) (hw : ∀ x ∈ gAt nx s k, (nx x).length = m) : WFB m (gRows nx (gAt nx s k)) where
  pos := by rw [gRows_len]; exact g_pos k
  le := by rw [gRows_len, d.len]; exact hk
  m3 := hm
  wid := fun r hr => by
    obtain ⟨x, hx, rfl⟩ := List.mem_map.mp hr
    rw [List.length_map, hw x hx]
  lt := fun r hr t ht => by
    obtain ⟨x, hx, rfl⟩ := List.mem_map.mp hr
    obtain ⟨y, hy, rfl⟩ := List.mem_map.mp ht
    rw [gRows_len]
    exact pl_lt (d.cl hx hy)
theorem gRow_at {o : List α} {q : Nat} {x : α} (h : o[q]? = some x) : row (gRows nx o) q = (nx x).map (pl o) := by
  unfold row gRows
  rw [List.getD_eq_getElem?_getD, List.getElem?_map, h]
  rfl
theorem gStp {o : List α} {q a : Nat} {x y : α} (h : o[q]? = some x) (ha : (nx x)[a]? = some y) : stp (gRows nx o) q a = pl o y := by
  unfold stp
  rw [gRow_at h, List.getD_eq_getElem?_getD, List.getElem?_map, ha]
  rfl
/-- a step of the places -/
def gRun (st : α → Nat → α) (x : α) (w : List Nat) : α := w.foldl st x
theorem gRun_eq {k : Nat} (d : Done nx s k) {st : α → Nat → α} (hst : ∀ x ∈ gAt nx s k, ∀ a, a < m → (nx x)[a]? = some (st x a)) : ∀ (w : List Nat) (x : α), x ∈ gAt nx s k → (∀ a ∈ w, a < m) → gRun st x w ∈ gAt nx s k ∧ run (gRows nx (gAt nx s k)) (pl (gAt nx s k) x) w = pl (gAt nx s k) (gRun st x w)
  | [], x, hx, _ => ⟨hx, rfl⟩
  | a :: w, x, hx, hw => by
    have ha := hst x hx a (hw a (List.mem_cons_self ..))
    have hy := d.cl hx (List.mem_of_getElem? ha)
    have h := gRun_eq d hst w (st x a) hy fun b hb => hw b (List.mem_cons_of_mem _ hb)
    refine ⟨h.1, ?_⟩
    show run _ (stp _ _ a) w = _
    rw [gStp (pl_at hx) ha]
    exact h.2
/-- the rooms that are marked -/
def gGood (f : α → Bool) (s : α) (o : List α) : List Nat := (List.range o.length).filter fun r => f (o.getD r s)
theorem pl_getD {o : List α} {x : α} (h : x ∈ o) : o.getD (pl o x) s = x := by
  rw [List.getD_eq_getElem?_getD, pl_at h]
  rfl
theorem mem_gGood {f : α → Bool} {o : List α} {x : α} (h : x ∈ o) : pl o x ∈ gGood f s o ↔ f x = true := by
  unfold gGood
  rw [List.mem_filter, List.mem_range, pl_getD h]
  exact ⟨fun z => z.2, fun z => ⟨pl_lt h, z⟩⟩
theorem pl_s (k : Nat) : pl (gAt nx s k) s = 0 := by
  have h := g_s (nx := nx) (s := s) k
  have h2 := pl_at (g_has (nx := nx) (s := s) k)
  obtain ⟨a1, a2⟩ := List.getElem?_eq_some_iff.mp h
  obtain ⟨b1, b2⟩ := List.getElem?_eq_some_iff.mp h2
  have pw := List.pairwise_iff_getElem.mp (g_nd (nx := nx) (s := s) k)
  rcases Nat.eq_zero_or_pos (pl (gAt nx s k) s) with z | z
  · exact z
  · exact (pw 0 _ a1 b1 z (a2.trans b2.symm)).elim
/-- what the machine tells -/
theorem gLang {k : Nat} (d : Done nx s k) {st : α → Nat → α} (hst : ∀ x ∈ gAt nx s k, ∀ a, a < m → (nx x)[a]? = some (st x a)) (f : α → Bool) {w : List Nat} (hw : ∀ a ∈ w, a < m) :
    run (gRows nx (gAt nx s k)) 0 w ∈ gGood f s (gAt nx s k) ↔ f (gRun st s w) = true := by
  have h := gRun_eq d hst w s (g_has k) hw
  rw [pl_s] at h
  rw [h.2]
  exact mem_gGood h.1
theorem gGood_ok (f : α → Bool) (s : α) (o : List α) : GOK o.length (gGood f s o) := GOK.filter _
end
section
variable {A B : Rws} {m : Nat}
def jn (m : Nat) (A B : Rws) (pr : Nat × Nat) : List (Nat × Nat) := (List.range m).map fun a => (stp A pr.1 a, stp B pr.2 a)
def jst (A B : Rws) (pr : Nat × Nat) (a : Nat) : Nat × Nat := (stp A pr.1 a, stp B pr.2 a)
theorem jn_at {pr : Nat × Nat} {a : Nat} (ha : a < m) : (jn m A B pr)[a]? = some (jst A B pr a) := by
  unfold jn
  rw [List.getElem?_map, List.getElem?_range ha]
  rfl
theorem jn_len (pr : Nat × Nat) : (jn m A B pr).length = m := by
  unfold jn
  rw [List.length_map, List.length_range]
theorem jrun : ∀ (w : List Nat) (pr : Nat × Nat), gRun (jst A B) pr w = (run A pr.1 w, run B pr.2 w)
  | [], _ => rfl
  | a :: w, pr => jrun w (jst A B pr a)
abbrev jAt (m : Nat) (A B : Rws) : Nat → List (Nat × Nat) := gAt (jn m A B) (0, 0)
theorem j_lt (wA : WFB m A) (wB : WFB m B) (k : Nat) : ∀ pr ∈ jAt m A B k, pr.1 < A.length ∧ pr.2 < B.length := g_inv ⟨wA.pos, wB.pos⟩ (fun pr h y hy => by
  obtain ⟨a, ha, rfl⟩ := List.mem_map.mp hy
  have ha := List.mem_range.mp ha
  exact ⟨wA.stp_lt h.1 ha, wB.stp_lt h.2 ha⟩) k
end
end U
namespace U
open PySem PySem.Spec PyProof.Rows L2
theorem pl_app {α : Type} [DecidableEq α] {l m : List α} {x : α} (h : x ∈ l) : pl (l ++ m) x = pl l x := by
  unfold pl
  rw [List.idxOf_append, if_pos h]
theorem pl_g {α : Type} [DecidableEq α] {nx : α → List α} {s : α} {k l : Nat} (hl : k ≤ l) {x : α} (h : x ∈ gAt nx s k) : pl (gAt nx s l) x = pl (gAt nx s k) x := by
  obtain ⟨j, rfl⟩ : ∃ j, l = k + j := ⟨l - k, by omega⟩
  obtain ⟨m, e⟩ := g_mono (nx := nx) (s := s) k j
  rw [e, pl_app h]
theorem numN_put {l : List NestedKey} {n : NestedKey} (h : n ∉ l) : putN (mapN l (numD l)) n (vn l.length) = mapN (l ++ [n]) (numD (l ++ [n])) := by
  rw [show mapN l (numD l) = mapN l (numD (l ++ [n])) from mapN_congr fun x hx => by unfold numD; rw [pl_snoc_in hx]]
  exact putN_mapN h (by unfold numD; rw [pl_snoc_new h])
theorem pl_map {α β : Type} [DecidableEq α] [DecidableEq β] {f : α → β} (hf : ∀ x y, f x = f y → x = y) (l : List α) (x : α) : pl (l.map f) (f x) = pl l x := by
  unfold pl
  induction l with
  | nil => rfl
  | cons a l ih =>
    rw [List.map_cons, List.idxOf_cons, List.idxOf_cons, ih]
    by_cases e : a = x
    · subst e
      rw [beq_self_eq_true, beq_self_eq_true]
    · have h1 : (f a == f x) = false := beq_false_of_ne fun z => e (hf _ _ z)
      have h2 : (a == x) = false := beq_false_of_ne e
      rw [h1, h2]
end U
namespace U
open PySem PySem.Spec PyProof.Rows L2
theorem gMarks {α : Type} (f : α → Bool) (s : α) (o : List α) : (List.range o.length).map (fun r => V.bl (decide (r ∈ gGood f s o))) = o.map fun x => V.bl (f x) := by
  refine List.ext_getElem (by simp) fun i h1 h2 => ?_
  rw [List.getElem_map, List.getElem_map, List.getElem_range]
  have hi : i < o.length := by simpa using h2
  have e : o.getD i s = o[i] := by
    rw [List.getD_eq_getElem?_getD, List.getElem?_eq_getElem hi]
    rfl
  congr 1
  unfold gGood
  cases hf : f o[i] with
  | true => exact decide_eq_true (List.mem_filter.mpr ⟨List.mem_range.mpr hi, by rw [e, hf]⟩)
  | false =>
    refine decide_eq_false fun z => ?_
    have := (List.mem_filter.mp z).2
    rw [e, hf] at this
    cases this
end U
namespace U
open PySem PySem.Spec PyProof.Rows L2
theorem g_le {α : Type} [DecidableEq α] {nx : α → List α} {s : α} {i : Nat} (hok : ∀ q, q < i → q < (gAt nx s q).length) : i ≤ (gAt nx s i).length := by
  cases i with
  | zero => exact Nat.zero_le _
  | succ j =>
    have h1 := hok j (Nat.lt_succ_self j)
    obtain ⟨mm, e⟩ := g_pre (nx := nx) (s := s) j
    rw [e, List.length_append]
    omega
/-- the rows so far stand when more places are met -/
theorem g_rows {α : Type} [DecidableEq α] {nx : α → List α} {s : α} {i : Nat} (hok : ∀ q, q < i → q < (gAt nx s q).length) : ((gAt nx s i).take i).map (fun x => (nx x).map (pl (gAt nx s (i + 1)))) = ((gAt nx s i).take i).map fun x => (nx x).map (pl (gAt nx s i)) := by
  refine List.map_congr_left fun x hx => List.map_congr_left fun y hy => pl_g (Nat.le_succ i) ?_
  obtain ⟨q, hq⟩ := List.mem_iff_getElem?.mp hx
  have hql := (List.getElem?_eq_some_iff.mp hq).1
  rw [List.length_take] at hql
  rw [List.getElem?_take_of_lt (by omega)] at hq
  exact g_row (by omega) hq (hok q (by omega)) hy
theorem Paired.mapM {α β : Type} {F G : α → β → Prop} : ∀ {xs : List α} {ys : List β}, Paired F xs ys → (∀ x y, x ∈ xs → F x y → G x y) → Paired G xs ys
  | _, _, .nil, _ => .nil
  | _, _, .cons r t, h => .cons (h _ _ (List.mem_cons_self ..) r) (Paired.mapM t fun x y hx => h x y (List.mem_cons_of_mem _ hx))
end U
namespace U
open PySem PySem.Spec PyProof.Rows L2
section
variable {m : Nat} {rs A : Rws} {gd gA : List Nat}
theorem least_len (w : WFB m rs) (h : LeastOf rs gd A gA) : A.length ≤ rs.length := by
  obtain ⟨j, i, o, g, ho, hi, hs, hg, hA, hgA⟩ := h.ex
  rw [hA, lrows_len]
  refine Nat.le_trans (heads_le o g) ?_
  rw [ho]
  exact w.scan_len i
theorem least_cls (w : WFB m rs) (h : LeastOf rs gd A gA) {k : Nat} (hk : cnt (List.range rs.length) (sigB rs gd (k + 1)) = cnt (List.range rs.length) (clsB rs gd k)) : A.length ≤ cnt (List.range rs.length) (sigB rs gd (k + 1)) := by
  obtain ⟨wA, oA, hL, cA⟩ := h.main w
  have hf : ∀ p, p < A.length → cf m A gA rs gd p < rs.length ∧ LangEq m A gA p rs gd (cf m A gA rs gd p) := fun p hp => cf_ok wA w cA hL.symm hp
  have hn : ((List.range A.length).map fun p => clsB rs gd k (cf m A gA rs gd p)).Nodup := by
    rw [List.nodup_iff_pairwise_ne, List.pairwise_map]
    refine List.Pairwise.imp_of_mem ?_ (range_inc A.length)
    intro p q hp hq hlt e
    have hp := List.mem_range.mp hp
    have hq := List.mem_range.mp hq
    obtain ⟨p1, p2⟩ := hf p hp
    obtain ⟨q1, q2⟩ := hf q hq
    have e2 : LangEq m rs gd (cf m A gA rs gd p) rs gd (cf m A gA rs gd q) := fun l hl => clsB_lang w hk l _ _ p1 q1 hl e
    have := cA.sep p q hp hq (p2.trans (e2.trans q2.symm))
    omega
  have h2 := nodup_sub hn fun x hx => (show x ∈ dd ((List.range rs.length).map (clsB rs gd k)) from by
    obtain ⟨p, hp, rfl⟩ := List.mem_map.mp hx
    exact mem_dd.mpr (List.mem_map.mpr ⟨_, List.mem_range.mpr (hf p (List.mem_range.mp hp)).1, rfl⟩))
  rw [List.length_map, List.length_range] at h2
  rw [hk]
  exact h2
end
section
variable {m : Nat} {A B : Rws}
theorem jLang {k : Nat} (d : Done (jn m A B) (0, 0) k) (f : Nat × Nat → Bool) {w : List Nat} (hw : ∀ a ∈ w, a < m) : run (gRows (jn m A B) (jAt m A B k)) 0 w ∈ gGood f (0, 0) (jAt m A B k) ↔ f (run A 0 w, run B 0 w) = true := by
  rw [gLang d (st := jst A B) (fun x _ a ha => jn_at ha) f hw, jrun]
end
end U
set_option maxHeartbeats 2000000
namespace X7
open PySem PySem.Spec PyProof.Rows L2
section
variable {X : Cx}
/-- repr(text) -/
theorem call_repr_str : CallR X (.builtin "repr") (fun xs H Q => ∃ a : Str, xs = [.str a] ∧ (reprText a).length ≤ sizeLine ∧ Q (.str (reprText a)) H) := by
  intro pins s σ H xs us Q I r h
  obtain ⟨a, rfl, hz, q⟩ := h
  obtain ⟨u, rfl, t, rfl⟩ := vals1 r
  exact PySem.P.repr_of_str ⟨.str _, H, I.tok _, ⟨_, rfl⟩, q⟩ hz
/-- isinstance(e, c), e the exception that the suite holds, with or without a dict -/
def rIsD (K : PySem.W.Frag) (D a : Addr) : List V → Hp → VK → Prop := fun xs H Q => ∃ (c : V) (cv : Value) (b : Bool), xs = [.ref a, c] ∧ (∀ u, RelV c u → u = cv) ∧ PySem.W.kitOne K (.ref D) cv = some b ∧ Q (.bl b) H
theorem call_isD {a D : Addr} {d : Option Addr} {oe : Obj} {pn : List (Addr × Obj)} (C : ExcC X.K D) (hz : Zc (.ref D) d oe) (hf : ∃ vs, oe.data = .fields vs) (hd : ∀ (H : Hp) (h : Heap) (x : Addr), HOk X.prog X.w H h → d = some x → H x ≠ none → ∃ o, h.get? x = some o) :
    CallR (X.suite a ((a, oe) :: pn)) (.builtin "isinstance") (fun xs H Q => (∀ x, d = some x → H x ≠ none) ∧ rIsD X.K D a xs H Q) := by
  intro pins s σ H xs us Q I r h
  obtain ⟨hx, c, cv, b, rfl, hcv, e, q⟩ := h
  cases r with
  | cons rx rr =>
    cases rr with
    | cons rt rr =>
      cases rr
      cases rx
      have ec := hcv _ rt
      subst ec
      obtain ⟨hget, _⟩ := I.pin (a, oe) (List.mem_append.mpr (.inl List.mem_cons_self))
      obtain ⟨vs, hv⟩ := hf
      have J : ∃ od, PySem.W.InstAt s.heap a oe D od := by
        obtain ⟨oc, od, oda, osl⟩ := oe
        obtain ⟨h1, h2⟩ := hz
        dsimp only at h1 h2 hv
        subst h1 h2 hv
        cases od with
        | none => exact ⟨none, hget, rfl, rfl, trivial⟩
        | some x =>
          obtain ⟨o, ho⟩ := hd H s.heap x I.hok rfl (hx x rfl)
          exact ⟨some o, hget, rfl, rfl, ho⟩
      obtain ⟨od, J⟩ := J
      exact PySem.W.kia_one (PySem.W.kitx_exc (by obtain ⟨cd, hc, _⟩ := PySem.W.any_some C.hd; rw [hc]; rfl) C.hg C.hk C.hs C.ha C.hn C.ht C.hm) I.kIn J e (fun z => nomatch z) fun tk => ⟨.bl b, H, I.kept (t' := tk) fun _ _ z => z, rfl, q⟩
end
end X7
set_option maxHeartbeats 4000000
namespace X7
open PySem PySem.Spec PyProof.Rows L2
open NdefX (NF NScope CellsAt ncx startF envF)
section
variable {prog : Program} {w : World} {A : Around} {E : Value → Shared → Prop} {h : Heap} {g : Array GenState} {d : Drawn} {t : Nat} {os : OsState}
theorem call_mw {nm q : Str} {C N u e t0 : Addr} {bs bm : List Value} {hdct : Bool} {sn : List Str} {sub : List Value} {ab : Bool} {col : Option Bool} {dd : Option Addr} {k0 k1 k2 k3 k5 : Option Value} {us : List Value} {Q : Value → Shared → Prop}
    (hC : h.get? C = some (excClassObj nm q C N bs bm hdct sn sub ab col dd k0 k1 k2 k3 k5 "ValueError.__new__")) (he : h.get? e = some (PySem.HandSPX.excO C t0)) (hu : h.get? u = some (PySem.W.kxs_mw "ValueError.__init__" e)) (hz : us.length ≤ sizeLine)
    (hq : ∀ h' t1, (∀ b o, b ≠ e → h.get? b = some o → h'.get? b = some o) → h'.get? e = some (PySem.HandSPX.excO C t1) → Q .none ⟨h', g, d, t, os⟩) :
    wpAny (model prog w) A (call (.ref u) us) Q E ⟨h, g, d, t, os⟩ := by
  refine wpAny_call (codeAny_of_tree (show wpAny _ A.in1 (callAny (.ref u) ⟨us, []⟩) _ _ _ from ?_))
  unfold callAny
  refine wpAny_bind (wpAny_load hu ?_)
  have t1 : (Value.type "method-wrapper" == Value.type "method" || Value.type "method-wrapper" == Value.type "builtin_function_or_method" || Value.type "method-wrapper" == Value.type "method-wrapper") = true := by decide
  simp only [PySem.W.kxs_mw, t1, if_true]
  refine PySem.W.KFB.if_so (by decide) (wpAny_bind (PySem.W.check_bound_init PySem.F.excBase_ValueError.toExcCallFacts hC he rfl ?_))
  refine wpAny_bind (wpAny_pure (wpAny_pure ⟨plainId_quiet PySem.F.excBase_ValueError.init.plain _, codeAny_builtin PySem.F.excBase_ValueError.initEntry ?_⟩))
  exact PySem.W.exc_init_tree (cls := .ref C) (t0 := t0) (dv := none) (c2 := .none) (c3 := .none) (b4 := .bool false) he hz fun h' k e' _ => hq h' _ k e'
end
/-- what the written part says of the error class at C; D: the class that holds the __init__; f: the field -/
structure IniC (K : PySem.W.Frag) (C D : Addr) (f : Str) : Prop where
  ox : OexC K C
  cD : ∃ cd, PySem.W.clsIn K D = some cd
  sub : PySem.W.mroIn K C (.ref D) = some true
  sup : PySem.W.ks_superIn K C D "__init__" = some (some (.builtin "ValueError.__init__"))
  sB : PySem.W.subIn K (.ref C) (.type "ValueError") = some true
  nf : PySem.W.findIn K (.ref C) f = some none
  op : PySem.W.nsIn K cStatics "thirdparty.any" = some none
def spIni (K : PySem.W.Frag) (D : Addr) (f : Str) (okv : V → Prop) : Sp := fun vs H Q _ => ∃ a C v, vs = [.ref a, v] ∧ okv v ∧ IniC K C D f ∧ H a = some (exo a C none) ∧ ∀ dx, H dx = none → dx ≠ a → Q .non (upd (upd H dx (exd dx [(f, v)])) a (exo a C (some dx)))
/-- the argument's expression: what it needs of the parameter's value -/
def ArgE (e : Expr) (p : Str) (okv : V → Prop) : Prop := (∀ env, starEach [e] env = (false, eval e env) :: starEach [] env) ∧ ∀ X : Cx, X.N[1]? = some p → Vis X.env.scope p → ∃ te, PE X e te ∧ ∀ (v : V) (σ : L2.St) (H : Hp) (Q : VK), okv v → σ[1]? = some (some v) → (∀ z, Q z H) → te σ H Q
section
variable {P : Program} {w : World} {K : PySem.W.Frag} {mg : Str → Option Value} {base : Heap} {fI D cc cda : Addr} {st : Stmt} {p f qual : Str} {e : Expr} {oc kV doc pm ct ccl cl : Value} {od an cdd cld : Option Addr} {osl ccs csl : Array (Option Value)} {vs : Array Value} {file : Str} {tf : Tok} {okv : V → Prop}
abbrev iniFd (st : Stmt) (qual : Str) (kV doc pm ct : Value) (an : Option Addr) (cda cc : Addr) : FuncData := PySem.W.ksFn "__init__" qual (C8.fnArgs st) (C8.fnBody st) (C8.fnScope st) .none kV doc pm an (.ref cda) ct cc
theorem ini_ok (lk : K.lookup fI = some ⟨oc, od, .func (iniFd st qual kV doc pm ct an cda cc), osl⟩) (hcd : PySem.W.codeIn K (.ref cda) qual = true) (lc : K.lookup cda = some ⟨ccl, cdd, .fields vs, ccs⟩) (hvs : vs[2]? = some (.str file tf))
    (hfile : ((P.main.file : Str) == file) = true) (htop : (P.main.scope.names.lookup ("super" : Str)).isSome = false) (lcc : K.lookup cc = some ⟨cl, cld, .cell (some (.ref D)), csl⟩) (hsup : mg "super" = none)
    (S : NScope ["self", p, "__class__"] ["self", p] ["__class__"] (C8.fnScope st)) (hks : (C8.fnScope st).names.lookup ("super" : Str) = some .globalImplicit)
    (hbd : ∃ p0 p1 p2 p3 p4 q1 q2 q3 q4 : Pos, (p2.endLine == p3.line) = true ∧ C8.fnBody st = [.Expr (.Call (.Attribute (.Call (.Name "super" p0) [] [] p1) "__init__" p2) [e] [] p3) p4, .Assign [.Attribute (.Name "self" q1) f q2] (.Name p q3) q4])
    (hpar : ∃ ar : Arg, ((C8.fnArgs st).posonlyargs ++ (C8.fnArgs st).args).head? = some ar ∧ ar.arg = "self") (hE : ArgE e p okv) (hpd : (p == ("__debug__" : Str)) = false) (hpc : (p == ("__classdict__" : Str)) = false) :
    FnOk P w K mg base C8.CX0 1 fI (iniFd st qual kV doc pm ct an cda cc) ["self", p] (spIni K D f okv) := by
  refine ⟨fun ws H Q E ⟨a, C, v, e1, _⟩ => by rw [e1] <;> rfl, fun A outer s H args us ws Q E hr e0 hb r hsp => ?_⟩
  obtain ⟨x, C, v, rfl, hokv, hc, hx, hq⟩ := hsp
  have KX : K.In s.heap := e0.mod.kin.keeps fun b o e => (e0.bs b o e).1
  have lim : s.heap.NoLimit := e0.mod.nolimit.keeps fun b o e => (e0.bs b o e).1
  have hl : us.length = 2 := by rw [← r.length]; rfl
  refine codeAny_call_function hr.depth (KX _ _ lk) rfl S.co S.gen rfl (PySem.W.codeRec_of KX hcd) (hb _ _ _ _ ?_)
  refine wpAny_newFunctionEnv S.nocell (fun ⟨n, _⟩ hy => S.par n (List.of_mem_zip hy).1) (fun h₁ hns hsb => ⟨lim.fresh _ hsb, ?_⟩) S.kind
  have kp : ∀ b o, s.heap.get? b = some o → h₁.get? b = some o := fun b o e => hsb.extBut b o (Nat.ne_of_lt (Heap.lt_size e)) (Heap.get?_push_of_some _ e)
  -- the frame as a context
  let F : NF := ⟨"__init__", qual, C8.fnArgs st, C8.fnBody st, C8.fnScope st, [("__class__", cc)], cda⟩
  have hcc : H cc = none := (e0.bs cc _ (e0.mod.kin _ _ lcc)).2
  have look1 : ∀ {y : Str} {c : Addr}, List.lookup y [(("__class__" : Str), cc)] = some c → y = "__class__" ∧ c = cc := fun {y c} h => by
    by_cases hy : y = "__class__"
    · rw [hy] at h
      simp [List.lookup] at h
      exact ⟨hy, h.symm⟩
    · have : (y == ("__class__" : Str)) = false := by simpa using hy
      simp [List.lookup, this] at h
  have CA : CellsAt F.cl ["__class__"] [none] s.heap H := ⟨rfl, fun y c h => by
      obtain ⟨_, rfl⟩ := look1 h
      exact ⟨hcc, some (.ref D), _, KX _ _ lcc, rfl⟩, fun y z c h1 h2 => (look1 h1).1.trans (look1 h2).1.symm, fun i y hy => by
      cases i with
      | zero =>
        simp at hy
        subst hy
        exact ⟨cc, by simp [F, List.lookup], fun v h => by simp at h⟩
      | succ i => simp at hy⟩
  have I : L2.Inv (ncx C8.CX0 P w K mg base (["self", p, "__class__"] : List Str) F fI A outer s H E) [] (startF (["self", p, "__class__"] : List Str) [.ref x, v] [none]) H { s with heap := h₁, toks := s.toks + ((["self", p] : List Str).zip us).length } :=
    NdefX.inv_startN (F := F) (f := fI) (fr := ["__class__"]) S hr.hd e0 rfl r CA hns kp
  cases r with
  | @cons _ u0 _ ur r0 rr =>
  cases rr with
  | @cons _ u1 _ ur2 r1 rr2 =>
  cases rr2
  obtain rfl : u0 = Value.ref x := r0
  obtain ⟨p0, p1, p2, p3, p4, q1, q2, q3, q4, hln, hbd⟩ := hbd
  obtain ⟨ar, har, har2⟩ := hpar
  obtain ⟨hst, hE⟩ := hE
  
  have hndp : (["self", p] : List Str).Nodup := (List.nodup_append.mp (show ((["self", p] : List Str) ++ (["__class__"] : List Str)).Nodup from S.nd)).1
  generalize hX : ncx C8.CX0 P w K mg base (["self", p, "__class__"] : List Str) F fI A outer s H E = X at I
  have eenv : X.env = envF F fI s.heap.objs.size := by rw [← hX]; rfl
  have eN : X.N = (["self", p, "__class__"] : List Str) := by rw [← hX]; rfl
  have eK : X.K = K := by rw [← hX]; rfl
  have eP : X.prog = P := by rw [← hX]; rfl
  have ew : X.w = w := by rw [← hX]; rfl
  have eA : X.A = A.deeper (envF F fI s.heap.objs.size) := by rw [← hX]; rfl
  have emg : X.mg = mg := by rw [← hX]; rfl
  have hvis : Vis X.env.scope p := by rw [eenv]; exact .inl (S.par p (by simp))
  obtain ⟨te, hte, hteq⟩ := hE X (by rw [eN]; rfl) hvis
  obtain ⟨hox, ⟨cdD, hD⟩, hsub, hsupr, hsB, hnf, hop⟩ := hc
  obtain ⟨nm, q, N0, bs, bm, sn, sub, ab, col, dd, k0, k1, k2, k3, k5, hC, hbm⟩ := id hox.cls
  have hKin : K.In h₁ := KX.keeps kp
  obtain ⟨oD, hD1, hD2⟩ : ∃ oD, h₁.get? D = some oD ∧ oD.data = .cls cdD := by
    unfold PySem.W.clsIn at hD
    split at hD
    · rename_i lo
      cases hD
      exact ⟨_, hKin _ _ lo, rfl⟩
    · cases hD
  obtain ⟨cd, hcl⟩ : ∃ cd, PySem.W.clsIn K C = some cd := ⟨_, by unfold PySem.W.clsIn; rw [hC] <;> rfl⟩
  obtain ⟨t1, hxo⟩ := exo_at I.hok hx
  have J0 : PySem.W.InstAt h₁ x ({ cls := .ref C, dict := none, data := .fields #[.ref t1, .none, .none, .none, .bool false, .none] } : Obj) C none := ⟨hxo, rfl, rfl, trivial⟩
  obtain ⟨mb, hb1, hb2⟩ := e0.mod.blt
  have bk : ∀ b o, base.get? b = some o → h₁.get? b = some o := fun b o e => kp b o (e0.bs b o e).1
  have hhd : callEnv (iniFd st qual kV doc pm ct an cda cc) s.heap.objs.size fI = envF F fI s.heap.objs.size := rfl
  refine PySem.ks_codeAny_funcAt ?_
  show _root_.PySem.wpAt (model P w) (A.deeper (envF F fI s.heap.objs.size)) (.func (C8.fnBody st) (envF F fI s.heap.objs.size)) (execs (C8.fnBody st) (envF F fI s.heap.objs.size)) _ _ _
  rw [hbd]
  generalize hen : envF F fI s.heap.objs.size = env
  have hint : interactive env = false := by
    rw [← hen]
    show ((C8.fnScope st).kind == .module && _) = false
    rw [S.kind] <;> rfl
  have hcall : eval (.Call (.Attribute (.Call (.Name "super" p0) [] [] p1) "__init__" p2) [e] [] p3) env = (do
      let ov ← attributeBase (.Call (.Name "super" p0) [] [] p1) "__init__" env (eval (.Call (.Name "super" p0) [] [] p1) env)
      standAt p2.atName
      let (g, first) ← holding [ov] (getMethod ov "__init__" (do return (← importBound (.Call (.Name "super" p0) [] [] p1) env).getD true))
      callWith p3 g first (backTo p3 (starEach [e] env)) []) := by
    have hf : methodCallForm ([e].length + ([] : List Keyword).length) (backTo p3 (starEach [e] env)) (backToKw p3 (keywordEach [] env)) = true := by
      rw [hst] <;> rfl
    show (attributeBase (.Call (.Name "super" p0) [] [] p1) "__init__" env (eval (.Call (.Name "super" p0) [] [] p1) env) >>= fun ov => standAt p2.atName >>= fun _ => methodCall (.Call (.Name "super" p0) [] [] p1) "__init__" p2 p3 env ov ([e].length + ([] : List Keyword).length) (backTo p3 (starEach [e] env)) (backToKw p3 (keywordEach [] env))) = _
    unfold methodCall methodCallPos calleeOf
    simp only [hf, hln, Bool.not_true, Bool.or_true, if_true]
    rfl
  rw [← hen] at hint hcall ⊢
  refine PySem.ks_wpAt_execs_cons (PySem.ks_wpAt_Expr_any (PySem.ks_wpAt_MethodCall (PySem.ks_wpAt_super_base hks (S.frk _ (by simp)) (by decide) rfl (kp _ _ (KX _ _ lk)) rfl har rfl (kp _ _ (KX _ _ lc)) rfl hvs hfile htop ?_) hcall) hint)
  refine PySem.W.ks_loadName_global S.kind hks (Calls.loadGlobal_builtin (e0.mod.glob.keeps bk) hsup (hb1.keeps bk) ((hb2 _ (by decide)).trans (show bootBuiltins "super" = some (.type "super") by first | rfl | kernel_rfl | decide +kernel)) ⟨rfl, ?_⟩)
  refine wpAny_loadName_free S.kind (S.frk _ (by simp)) (c := cc) (by simp [envF, PySem.W.envX, F, List.lookup]) ⟨_, kp _ _ (KX _ _ lcc), rfl⟩ ?_
  rw [har2]
  refine wpAny_loadName_local S.kind (S.par _ (by simp)) hns (v := .ref x) (NdefX.zip_look (i := 0) hndp rfl rfl) ?_
  refine PySem.ks_wpAny_isType_cls hD1 hD2 ⟨rfl, ?_⟩
  refine PySem.ks_wpAny_call_super hD1 hD2 J0.at_ J0.cls (fun c z => by cases z) (PySem.W.looks_mroIn hKin hsub) (fun h2 hso k2 => ?_)
  have hKin2 : K.In h2 := hKin.keeps k2
  have I2 : L2.Inv X [] (startF (["self", p, "__class__"] : List Str) [.ref x, v] [none]) H { s with heap := h2, toks := s.toks + ((["self", p] : List Str).zip [Value.ref x, u1]).length } := I.kept k2
  have hx2 := k2 _ _ J0.at_
  have J2 : PySem.W.InstAt h2 x ({ cls := .ref C, dict := none, data := .fields #[.ref t1, .none, .none, .none, .bool false, .none] } : Obj) C none := ⟨hx2, rfl, rfl, trivial⟩
  have hal : PySem.W.alongIn K "__init__" ((cd.mro.dropWhile (· != .ref D)).drop 1) = some (some (.builtin "ValueError.__init__")) := by
    unfold PySem.W.ks_superIn at hsupr
    rw [hcl] at hsupr
    exact hsupr
  refine PySem.W.kxs_getMethod PySem.W.kxs_ValueError hso (PySem.W.looks_opaque hKin2 hop) (l₀ := cd.mro) (fun A Q E s k q => wpAny_bind ((PySem.W.looks_clsIn hKin2 hcl) A _ E s k (wpAny_pure q))) rfl hKin2 hal (J2.type.andThen (PySem.W.looks_subIn hKin2 hsB)) (PySem.W.ks_ne hKin2 J2 hcl) (by decide) ?_
  -- the bound method at u
  have hu3 : (h2.push (PySem.W.kxs_mw "ValueError.__init__" x)).get? h2.objs.size = some (PySem.W.kxs_mw "ValueError.__init__" x) := Heap.get?_push_size _ rfl
  have I3 : L2.Inv X [] (startF (["self", p, "__class__"] : List Str) [.ref x, v] [none]) H { s with heap := h2.push (PySem.W.kxs_mw "ValueError.__init__" x), toks := s.toks + ((["self", p] : List Str).zip [Value.ref x, u1]).length + 1 } := I2.kept fun b o e => Heap.get?_push_of_some _ e
  have hfp : FpOk X [] H h2.objs.size := I2.fpOk (Nat.le_refl _) (I2.hok.fresh (Nat.le_refl _))
  have I3' : L2.Inv X [(h2.objs.size, PySem.W.kxs_mw "ValueError.__init__" x)] (startF (["self", p, "__class__"] : List Str) [.ref x, v] [none]) H { s with heap := h2.push (PySem.W.kxs_mw "ValueError.__init__" x), toks := s.toks + ((["self", p] : List Str).zip [Value.ref x, u1]).length + 1 } := I3.pins_of fun q hq => by
    rw [List.mem_singleton] at hq
    subst hq
    exact ⟨hu3, hfp.1, hfp.2.1, hfp.2.2.1, fun v z => by cases z⟩
  clear eenv eN eK eP ew eA emg
  subst hX
  have hpa : PA (ncx C8.CX0 P w K mg base (["self", p, "__class__"] : List Str) F fI A outer s H E) [e] (tCons te tNil) := pa_cons hte pa_nil (hst _)
  have hrd : tCons te tNil (startF (["self", p, "__class__"] : List Str) [.ref x, v] [none]) H (fun ws H1 => ws.length = 1 ∧ H1 = H) := hteq v _ _ _ hokv rfl fun z => ⟨rfl, rfl⟩
  have hend : ∀ {Q' : Value → Shared → Prop}, (∀ s', L2.Inv (ncx C8.CX0 P w K mg base (["self", p, "__class__"] : List Str) F fI A outer s H E) [] (startF (["self", p, "__class__"] : List Str) [.ref x, v] [none]) H s' → Q' .none s') →
      wpAny (model P w) (A.deeper (envF F fI s.heap.objs.size)) (callWith p3 (.ref h2.objs.size) [] (backTo p3 (starEach [e] (envF F fI s.heap.objs.size))) []) Q' (ncx C8.CX0 P w K mg base (["self", p, "__class__"] : List Str) F fI A outer s H E).xe { s with heap := h2.push (PySem.W.kxs_mw "ValueError.__init__" x), toks := s.toks + ((["self", p] : List Str).zip [Value.ref x, u1]).length + 1 } := fun {Q'} hQ => by
    have hru := hpa.run p3 _ _ _ H _ I3' hrd
    rw [show (ncx C8.CX0 P w K mg base (["self", p, "__class__"] : List Str) F fI A outer s H E).env = envF F fI s.heap.objs.size from rfl] at hru
    rw [hst] at hru ⊢
    refine PySem.W.kxs_callWith (i := "ValueError.__init__") (x := x) (by rfl) (Calls.evalArgs_plain (wpAny_mono hru (fun ws s4 ⟨vs4, H4, I4, r4, e4, e5⟩ => ?_) fun _ _ z => z))
    subst e5
    have hl4 : ws.length = 1 := by rw [← r4.length]; exact e4
    have hu4 := (I4.pin (h2.objs.size, PySem.W.kxs_mw "ValueError.__init__" x) (by simp)).1
    refine ⟨hu4, ?_⟩
    obtain ⟨t4, hx4⟩ := exo_at I4.hok hx
    have hC4 := I4.kIn _ _ hC
    have I5 : L2.Inv (ncx C8.CX0 P w K mg base (["self", p, "__class__"] : List Str) F fI A outer s H4 E) [] (startF (["self", p, "__class__"] : List Str) [.ref x, v] [none]) H4 s4 := I4.pins_of fun q hq => by cases hq
    obtain ⟨hp4, g4, d4, tk4, os4⟩ := s4
    refine call_mw hC4 hx4 hu4 (by rw [List.nil_append, hl4, sizeLine_eq]; decide) fun h' t5 k5 hx5 => hQ _ ?_
    have J := I5.write (t' := tk4) (x := x) (e := x) (o := exo x C none) (by rw [hx]; exact True.intro) (.inl rfl) k5 ⟨_, hx5⟩ (exo_ok hx5)
    have eu : upd H4 x (exo x C none) = H4 := funext fun b => by
      by_cases hb : b = x
      · rw [hb, upd_same, hx]
      · exact upd_ne hb
    rw [eu] at J
    exact J
  refine hend fun s5 I5 => ?_
  refine PySem.wpAt_of_wpAny ?_
  have hself : PE (ncx C8.CX0 P w K mg base (["self", p, "__class__"] : List Str) F fI A outer s H E) (.Name "self" q1) (tVar 0) := pe_var rfl (.inl (S.par _ (by simp)))
  have hpar2 : PE (ncx C8.CX0 P w K mg base (["self", p, "__class__"] : List Str) F fI A outer s H E) (.Name p q3) (tVar 1) := pe_var (hd := hpd) (hcd := hpc) rfl hvis
  have hps := pss_one (ps_ost (f := f) (p' := q2) (pos := q4) hself hpar2)
  refine wpAny_mono (hps.run [] s5 _ H { nx := fun _ H' => Q .non H', rt := Q } I5 ?_) (fun fl s' hs => ?_) fun e s' hs => hs
  · exact ⟨v, rfl, .ref x, rfl, x, C, rfl, hox, hnf, .inl ⟨hx, fun dx h1 h2 => hq dx h1 h2⟩⟩
  · have fin : ∀ {σ' : L2.St} {H' : Hp} {v : V} {u : Value}, L2.Inv (ncx C8.CX0 P w K mg base (["self", p, "__class__"] : List Str) F fI A outer s H E) [] σ' H' s' → RelV v u → Q v H' → CE outer P w H s Q u s' := fun {σ' H' v u} J rv z => ⟨v, H', J.os, J.bare, J.base, J.hok, rv, z⟩
    cases fl with
    | ret u => exact let ⟨v, σ', H', J, rv, z⟩ := hs; fin J rv z
    | next => exact let ⟨σ', H', J, z⟩ := hs; fin (v := V.non) (u := Value.none) J rfl z
    | brk => exact let ⟨_, _, _, z⟩ := hs; z.elim
    | cont => exact let ⟨_, _, _, z⟩ := hs; z.elim
end
theorem arg_str {z : Str} {n : Nat} {pos : Pos} {p : Str} {okv : V → Prop} : ArgE (.Constant (.str z) n pos) p okv := ⟨fun _ => rfl, fun X _ _ => ⟨_, pe_str, fun v σ H Q _ _ q => q _⟩⟩
/-- a value that an f-string takes -/
def FmtOk (v : V) : Prop := (∃ y : Str, v = .str y ∧ y.length ≤ 1000000) ∨ ∃ i : Int, v = .int i ∧ i.natAbs.log2 < 1920
theorem arg_fmt {z : Str} {n : Nat} {p1 p2 p3 p4 : Pos} {p : Str} (hz : z.length ≤ 1000) (hpd : (p == ("__debug__" : Str)) = false) (hpc : (p == ("__classdict__" : Str)) = false) : ArgE (.JoinedStr [.Constant (.str z) n p1, .FormattedValue (.Name p p2) (-1) none p3] p4) p FmtOk :=
  ⟨fun _ => rfl, fun X hN hV => ⟨_, pe_joined (.cons (pe_str (X := X)) (.cons (pe_fmt (pe_var (i := 1) (hd := hpd) (hcd := hpc) hN hV)) .nil)), fun v σ H Q hv hs q => by
    have e0 : (Str.empty : Str).length = 0 := rfl
    refine ⟨z, rfl, by rw [PySem.Str.length_append, e0, sizeLine_eq]; omega, v, hs, ?_⟩
    rcases hv with ⟨y, rfl, hy⟩ | ⟨i, rfl, hi⟩
    · exact .inl ⟨y, rfl, by rw [sizeLine_eq]; omega, y, rfl, by rw [PySem.Str.length_append, PySem.Str.length_append, e0, sizeLine_eq]; omega, q _⟩
    · have h1 := PyProof.Rows.int_text_len_1921 hi
      exact .inr ⟨i, rfl, hi, _, rfl, by rw [PySem.Str.length_append, PySem.Str.length_append, e0, sizeLine_eq]; omega, q _⟩⟩⟩
end X7
set_option maxHeartbeats 4000000
namespace X7
open PySem PySem.Spec PyProof.Rows L2
open L2H (RoomH PinOk cxH inv_startH)
structure CalX (P : Program) (w : World) (K : PySem.W.Frag) (mg : Str → Option Value) (base : Heap) (k : Nat) (x : Str) (sp : Sp) : Prop where
  ex : ∃ (f : Addr) (fd : FuncData) (ps : List Str), FnOk P w K mg base (L2.CX P w) k f fd ps sp ∧ mg x = some (.ref f) ∧ PySem.W.keepIn K (.ref f) = true ∧ Binds K fd ps []
section
variable {P : Program} {w : World} {K : PySem.W.Frag} {mg : Str → Option Value} {base : Heap} {N ps : List Str} {x qual : Str} {st : Stmt} {f : Addr} {fd : FuncData} {k : Nat} {sp : Sp}
theorem fnX (F : C8.Fun K x qual st f fd) (S : FnScope N ps (C8.fnScope st)) (len : ∀ vs H Q E, sp vs H Q E → vs.length = ps.length)
    (hb : ∀ (cdv : Value) (A : Around) (outer : List Env) (s : Shared) (H : Hp) (vs : List V) (Q : VK) (E : XK), Room k (A.deeper (envOfC qual (C8.fnScope st) s.heap.objs.size f cdv)) → sp vs H Q E →
      ∃ t, PSs (cxOf (L2.CX P w) P w K mg base N qual (C8.fnScope st) f cdv A outer s H E) (C8.fnBody st) t ∧ t { nx := fun _ H' => Q .non H', rt := Q } (L2.start N vs) H) : FnOk P w K mg base (L2.CX P w) (k + 1) f fd ps sp := by
  obtain ⟨_, _, _, _, _, _, _, cdv, _, _, rfl, lk, hcd⟩ := F.ex
  exact fn_of lk hcd S len fun A outer s H vs Q E hr hsp => hb cdv A outer s H vs Q E hr hsp
theorem calX (F : C8.Def K mg x st f fd) (b : Binds K fd ps []) (S : FnScope N ps (C8.fnScope st)) (len : ∀ vs H Q E, sp vs H Q E → vs.length = ps.length)
    (hb : ∀ (cdv : Value) (A : Around) (outer : List Env) (s : Shared) (H : Hp) (vs : List V) (Q : VK) (E : XK), Room k (A.deeper (envOfC x (C8.fnScope st) s.heap.objs.size f cdv)) → sp vs H Q E →
      ∃ t, PSs (cxOf (L2.CX P w) P w K mg base N x (C8.fnScope st) f cdv A outer s H E) (C8.fnBody st) t ∧ t { nx := fun _ H' => Q .non H', rt := Q } (L2.start N vs) H) : CalX P w K mg base (k + 1) x sp :=
  ⟨f, fd, ps, fnX F.fn S len hb, F.mgf, F.kp, b⟩
end
section
variable {X : Cx} {k j : Nat} {x : Str} {sp : Sp} {W : WX} {e : Expr} {es : List Expr} {t : TA} {p pos : Pos}
theorem pe_cX (c : CalX X.prog X.w X.K X.mg X.base k x sp) (hr : Room j X.A) (hk : k ≤ j) (tk : Takes X W) (hg : Gl X x) (ha : PA X (e :: es) t)
    (hdb : (x == ("__debug__" : Str)) = false := by decide) (he : starEach (e :: es) X.env = (false, eval e X.env) :: starEach es X.env := by rfl) (hpl : (backTo pos (starEach es X.env)).any (·.1) = false := by rfl) :
    PE X (.Call (.Name x p) (e :: es) [] pos) (tCallS sp (WE W) t) := by
  obtain ⟨f, fd, ps, F, hm, kp, b⟩ := c.ex
  exact pe_callS F (hr.mono hk) hg hm kp b (fun σ => passAt tk σ) ha hdb he hpl
theorem i_callS {E : L2.St → XK} {σ : L2.St} {H : Hp} {Q : VK} (q : t σ H fun vs H1 => sp vs H1 Q (E σ)) : tCallS sp E t σ H Q := q
theorem PS_nox {st : Stmt} {t : TS} (h : PS X.nox st t) : PS X st t := ⟨fun pins s σ H D I hw => by
  have z := (PSs.nox (X := X) (pss_one h)).run pins s σ H D I
  have z2 := (pss_one h).run pins s σ H D (I.wish _) hw
  exact wpAny_mono (h.run pins s σ H D (I.wish _) hw) (fun f s' q => q.unwish) fun e s' q => q.elim⟩
end
structure MakE (P : Program) (w : World) (K : PySem.W.Frag) (mg : Str → Option Value) (base : Heap) (x : Str) (C D : Addr) (f : Str) (okv : V → Prop) : Prop where
  ex : ∃ (fI : Addr) (fd : FuncData) (ps : List Str), FnOk P w K mg base C8.CX0 1 fI fd ps (spIni K D f okv) ∧ Binds K fd ps [] ∧ PySem.W.findIn K (.ref C) "__init__" = some (some (.ref fI)) ∧ PySem.W.typeIn K (.ref fI) = some (.type "function")
  ic : IniC K C D f
  mg : mg x = some (.ref C)
theorem del_exo {fs : List (Str × V)} {H1 : Hp} {a d : Addr} {o o1 o2 : HO} (ha : H1 a = none) (hd : d ≠ a) : upd (del (upd (upd (upd H1 a o) d o1) a o2) a) d (.xd fs) = upd H1 d (.xd fs) := by
  funext b
  by_cases h1 : b = d
  · subst h1
    rw [upd_same, upd_same]
  · rw [upd_ne h1, upd_ne h1]
    by_cases h2 : b = a
    · subst h2
      rw [del_same, ha]
    · rw [del_ne h2, upd_ne h2, upd_ne h1, upd_ne h2]
/-- an error is made: its one argument kept in its dict -/
theorem mkE_end {K : PySem.W.Frag} {C D : Addr} {f : Str} {okv : V → Prop} {v : V} {H1 : Hp} {Q E : XK} (ic : IniC K C D f) (hv : okv v) (q : ∀ d, H1 d = none → Q (.ref C) (some d) (upd H1 d (.xd [(f, v)]))) :
    [v].length ≤ 1000 ∧ ∀ a, H1 a = none → spIni K D f okv (.ref a :: ([v] ++ [])) (upd H1 a (exo a C none)) (fun v' H2 => v' = .non ∧ ∃ (d : Addr) (fs : List (Str × V)), H2 a = some (exo a C (some d)) ∧ H2 d = some (exd d fs) ∧ H1 d = none ∧ Q (.ref C) (some d) (upd (del H2 a) d (.xd fs))) E := by
  refine ⟨by show 1 ≤ 1000; decide, fun a ha => ⟨a, C, v, rfl, hv, ic, upd_same, fun dx hdx hne => ⟨rfl, dx, [(f, v)], upd_same, by rw [upd_ne hne, upd_same], ?_, ?_⟩⟩⟩
  · rw [upd_ne hne] at hdx
    exact hdx
  · rw [upd_ne hne] at hdx
    rw [del_exo ha hne]
    exact q dx hdx
section
variable {X : Cx} {j : Nat} {x f : Str} {C D : Addr} {okv : V → Prop} {W : WX} {e : Expr} {t : TA} {p pos pos2 : Pos}
theorem pmk_E (m : MakE X.prog X.w X.K X.mg X.base x C D f okv) (hr : Room j X.A) (hk : 2 ≤ j) (hg : Gl X x) (ha : PA X [e] t)
    (hdb : (x == ("__debug__" : Str)) = false := by decide) (he : starEach (e :: []) X.env = (false, eval e X.env) :: starEach [] X.env := by rfl) (hpl : (backTo pos (starEach [] X.env)).any (·.1) = false := by rfl) :
    PMk X (.Call (.Name x p) [e] [] pos) (tMkO C (spIni X.K D f okv) [] t) := by
  obtain ⟨fI, fd, ps, F, b, iC, tI⟩ := m.ex
  exact pmk_oex m.ic.ox iC tI F (hr.mono hk) b .nil C8.pass0 hg m.mg ha hdb he hpl
/-- raise C(e) -/
def tRaiseE (K : PySem.W.Frag) (C D : Addr) (f : Str) (okv : V → Prop) (W : WX) (t : TA) : TS := fun _ σ H => tMkO C (spIni K D f okv) [] t σ H fun cls d H' => W cls d σ H'
theorem ps_raiseE (hc : X.calm = true) (tk : Takes X W) (m : MakE X.prog X.w X.K X.mg X.base x C D f okv) (hr : Room j X.A) (hk : 2 ≤ j) (hg : Gl X x) (ha : PA X [e] t)
    (hdb : (x == ("__debug__" : Str)) = false := by decide) (he : starEach (e :: []) X.env = (false, eval e X.env) :: starEach [] X.env := by rfl) (hpl : (backTo pos (starEach [] X.env)).any (·.1) = false := by rfl) :
    PS X (.Raise (some (.Call (.Name x p) [e] [] pos)) none pos2) (tRaiseE X.K C D f okv W t) := ps_raise hc tk (pmk_E m hr hk hg ha hdb he hpl)
end
theorem i_raiseE {K : PySem.W.Frag} {C D : Addr} {f : Str} {okv : V → Prop} {W : WX} {t : TA} {Dn : Ends} {σ : L2.St} {H : Hp} (q : t σ H fun vs H1 => vs.length ≤ 1000 ∧ ∀ a, H1 a = none → spIni K D f okv (.ref a :: (vs ++ [])) (upd H1 a (exo a C none))
    (fun v' H2 => v' = .non ∧ ∃ (d : Addr) (fs : List (Str × V)), H2 a = some (exo a C (some d)) ∧ H2 d = some (exd d fs) ∧ H1 d = none ∧ W (.ref C) (some d) σ (upd (del H2 a) d (.xd fs))) (fun _ _ _ => False)) : tRaiseE K C D f okv W t Dn σ H := q
structure FnE (P : Program) (w : World) (K : PySem.W.Frag) (mg : Str → Option Value) (base : Heap) (k : Nat) (f : Addr) (fd : FuncData) (ps : List Str) (sp : Addr → Value → Option Addr → Sp) : Prop where
  len : ∀ a c d vs H Q E, sp a c d vs H Q E → vs.length = ps.length
  run : ∀ (A : Around) (outer : List Env) (s : Shared) (H : Hp) (args : Args) (us : List Value) (vs : List V) (Q : VK) (E : XK) (q : Addr × Obj), RoomH k A → PinOk outer H s q → (∃ fv, q.2.data = .fields fv) → Env0 P w K mg base A outer s H → BindsTo s fd args (ps.zip us) → Vals vs us → sp q.1 q.2.cls q.2.dict vs H Q E →
    codeAny (model P w) A (.call (.ref f) args) (CR C8.CX0 outer P w H s Q E) s
section
variable {P : Program} {w : World} {K : PySem.W.Frag} {mg : Str → Option Value} {base : Heap} {N ps : List Str} {x qual : Str} {st : Stmt} {f : Addr} {fd : FuncData} {k : Nat} {sp : Addr → Value → Option Addr → Sp}
theorem fnE (F : C8.Fun K x qual st f fd) (S : FnScope N ps (C8.fnScope st)) (len : ∀ a c d vs H Q E, sp a c d vs H Q E → vs.length = ps.length)
    (hb : ∀ (cdv : Value) (A : Around) (outer : List Env) (s : Shared) (H : Hp) (vs : List V) (Q : VK) (E : XK) (q : Addr × Obj), RoomH k (A.deeper (envOfC qual (C8.fnScope st) s.heap.objs.size f cdv)) → (∃ fv, q.2.data = .fields fv) → sp q.1 q.2.cls q.2.dict vs H Q E →
      ∃ t, PSs (cxH C8.CX0 P w K mg base N qual (C8.fnScope st) f cdv A outer s H E q).nox (C8.fnBody st) t ∧ t { nx := fun _ H' => Q .non H', rt := Q } (L2.start N vs) H) : FnE P w K mg base (k + 1) f fd ps sp := by
  obtain ⟨oc, od, dV, kV, doc, pm, an, cdv, ct, osl, rfl, lk, hcd⟩ := F.ex
  refine ⟨len, fun A outer s H args us vs Q E q hr hpin hqd e0 hbd r hsp => ?_⟩
  have hl := len _ _ _ _ _ _ _ hsp
  have kx : K.In s.heap := e0.mod.kin.keeps fun b o e => (e0.bs b o e).1
  have hk : ∀ y ∈ ps.zip us, (C8.fnScope st).names.lookup y.1 = some .local ∨ ((C8.fnScope st).names.lookup y.1 = some .cell ∧ ((cellsFrom (s.heap.objs.size + 1) (C8.fnScope st).names []).lookup y.1).isSome = true) := fun ⟨n, v⟩ hy => (S.par n (List.of_mem_zip hy).1).elim .inl fun z => .inr ⟨z, PySem.W.cellsFrom_some _ _ _ (.inl z)⟩
  refine codeAny_call_function hr.depth (kx _ _ lk) rfl S.co S.gen rfl (PySem.W.codeRec_of kx hcd) (hbd _ _ _ _ (wpAny_newFunctionEnv_cells S.kind hk fun env he s1 ic => ?_))
  subst he
  refine ⟨(e0.mod.nolimit.keeps fun b o e => (e0.bs b o e).1).keeps ic.toInCall.keep, codeAny_func ?_⟩
  obtain ⟨t, ht, hq⟩ := hb cdv A outer s H vs Q E q (hr.deeper _) hqd hsp
  have I : Inv (cxH C8.CX0 P w K mg base N qual (C8.fnScope st) f cdv A outer s H E q) [] (L2.start N vs) H s1 := inv_startH S hpin e0 hl r ic
  refine wpAny_mono (ht.nox.run [] s1 (L2.start N vs) H _ I hq) (fun fl s' hs => ?_) fun e s' hs => hs
  have fin : ∀ {σ' : L2.St} {H' : Hp} {v : V} {u : Value}, Inv (cxH C8.CX0 P w K mg base N qual (C8.fnScope st) f cdv A outer s H E q) [] σ' H' s' → RelV v u → Q v H' → CE outer P w H s Q u s' := fun {σ' H' v u} J rv z => ⟨v, H', J.os, J.bare, J.base, J.hok, rv, z⟩
  cases fl with
  | ret u => exact let ⟨v, σ', H', J, rv, z⟩ := hs; fin J rv z
  | next => exact let ⟨σ', H', J, z⟩ := hs; fin (v := V.non) (u := Value.none) J rfl z
  | brk => exact let ⟨_, _, _, z⟩ := hs; z.elim
  | cont => exact let ⟨_, _, _, z⟩ := hs; z.elim
end
structure CalE (P : Program) (w : World) (K : PySem.W.Frag) (mg : Str → Option Value) (base : Heap) (k : Nat) (x : Str) (sp : Addr → Value → Option Addr → Sp) : Prop where
  ex : ∃ (f : Addr) (fd : FuncData) (ps : List Str), FnE P w K mg base k f fd ps sp ∧ mg x = some (.ref f) ∧ PySem.W.keepIn K (.ref f) = true ∧ Binds K fd ps []
section
variable {X : Cx} {k j : Nat} {x : Str} {sp : Addr → Value → Option Addr → Sp} {a : Addr} {oe : Obj} {cls : Value} {d : Option Addr} {e : Expr} {es : List Expr} {t : TA} {p pos : Pos}
theorem pe_cE (c : CalE X.prog X.w X.K X.mg X.base k x sp) (hp : (a, oe) ∈ X.pn) (hz : Zc cls d oe) (hf : ∃ vs, oe.data = .fields vs) (hr : RoomH j X.A) (hk : k ≤ j) (hg : Gl X x) (ha : PA X (e :: es) t)
    (hdb : (x == ("__debug__" : Str)) = false := by decide) (he : starEach (e :: es) X.env = (false, eval e X.env) :: starEach es X.env := by rfl) (hpl : (backTo pos (starEach es X.env)).any (·.1) = false := by rfl) :
    PE X (.Call (.Name x p) (e :: es) [] pos) (tCallS (sp a cls d) (fun _ => C8.E0) t) := by
  obtain ⟨f, fd, ps, F, hm, kp, b⟩ := c.ex
  obtain ⟨hz1, hz2⟩ := hz
  subst hz1 hz2
  refine ⟨fun pins s σ H Q I h => ?_⟩
  refine wpAny_Call_Name_kw (ld_glob I hg hm ?_ hdb)
  refine PySem.W.callWith_K (h₀ := X.base) I.ok.mod.kin kp (thn (ha.run pos pins s σ H _ I h) fun us s1 ⟨vs, H1, I1, r, z⟩ => ⟨I1.kIn, ?_⟩) he hpl
  have hl : us.length = ps.length := by rw [← r.length]; exact F.len _ _ _ _ _ _ _ z
  have b1 := b s1 us I1.kIn (by rw [List.append_nil]; exact hl)
  rw [List.append_nil] at b1
  have P1 := I1.pin (a, oe) (List.mem_append_left _ hp)
  have pin : PinOk X.stack H1 s1 (a, oe) := ⟨P1.1, P1.2.1, fun hm => (List.mem_cons.mp (I1.stkSub a hm)).elim P1.2.2.1 P1.2.2.2.1, P1.2.2.2.2⟩
  refine wpAny_call (codeAny_mono (F.run X.A X.stack s1 H1 ⟨us, []⟩ us vs Q C8.E0 (a, oe) (hr.mono hk) pin hf I1.env0 b1 r z) fun r s' hq => ?_)
  cases r with
  | error e => exact hq.elim
  | ok fl => cases fl with
    | ret u => exact I1.after hq
    | next => exact hq.elim
    | brk => exact hq.elim
    | cont => exact hq.elim
end
section
variable {X : Cx} {a D : Addr} {dd : Option Addr} {oe : Obj} {f : Str}
theorem pin_inst {pins : List (Addr × Obj)} {σ : L2.St} {H : Hp} {s : Shared} {d : Addr} {fs : List (Str × V)} (hp : (a, oe) ∈ X.pn) (I : Inv X pins σ H s) (hz : Zc (.ref D) (some d) oe) (hf : ∃ vs, oe.data = .fields vs) (hd : H d = some (.xd fs)) :
    ∃ od, PySem.W.InstAt s.heap a oe D (some od) ∧ ∀ (n : Str) (v : V), fs.lookup n = some v → ∃ u, PySem.W.lookIn n od = some (some u) ∧ RelV v u := by
  obtain ⟨vs, hv⟩ := hf
  obtain ⟨mA, hns, hr⟩ := (show ObjOk X.prog X.w H s.heap d (.xd fs) from I.hok d _ hd)
  obtain ⟨od, ho, hl⟩ := lookIn_ns hns
  have hget := (I.pin (a, oe) (List.mem_append_left _ hp)).1
  refine ⟨od, ⟨hget, hz.1, by unfold PySem.W.notCls; rw [hv] <;> rfl, by rw [hz.2]; exact ho⟩, fun n v e => ?_⟩
  obtain ⟨u, hu, ru⟩ := RelO.some_of (v := v) (o := mA n) (by rw [← e]; exact hr n)
  exact ⟨u, by rw [hl, hu], ru⟩
/-- error.f -/
def tXp (a d : Addr) (f : Str) (te : TE) : TE := fun σ H Q => te σ H fun x H1 => x = .ref a ∧ ∃ (fs : List (Str × V)) (v : V), H1 d = some (.xd fs) ∧ fs.lookup f = some v ∧ Q v H1
theorem pe_xp {d : Addr} {e : Expr} {te : TE} {pos : Pos} (hp : (a, oe) ∈ X.pn) (C : XfC X.K D) (hno : PySem.W.findIn X.K (.ref D) f = some none) (hz : Zc (.ref D) (some d) oe) (hf : ∃ vs, oe.data = .fields vs) (he : PE X e te)
    (hb : attributeBase e f X.env (eval e X.env) = eval e X.env := by rfl) : PE X (.Attribute e f pos) (tXp a d f te) := by
  refine ⟨fun pins s σ H Q I h => attr_of hb (thn (he.run pins s σ H _ I h) fun u s1 hh => ?_)⟩
  obtain ⟨x, H1, I1, rx, rfl, fs, v, ed, l, q⟩ := hh
  cases rx
  obtain ⟨od, J, hl⟩ := pin_inst hp I1 hz hf ed
  obtain ⟨u, hu, ru⟩ := hl f v l
  exact HandSPX.exc_get I1.kIn J C.ga C.gg C.exC (PySem.W.findObj_own C.hdC hno rfl hu) (handed_of ru) ⟨v, H1, I1.tok _, ru, q⟩
/-- isinstance(error, c) -/
def rIsP (K : PySem.W.Frag) (D a d : Addr) : List V → Hp → VK → Prop := fun xs H Q => ∃ (c : V) (cv : Value) (b : Bool) (fs : List (Str × V)), xs = [.ref a, c] ∧ H d = some (.xd fs) ∧ (∀ u, RelV c u → u = cv) ∧ PySem.W.kitOne K (.ref D) cv = some b ∧ Q (.bl b) H
theorem call_isP {d : Addr} (hp : (a, oe) ∈ X.pn) (C : ExcC X.K D) (hz : Zc (.ref D) (some d) oe) (hf : ∃ vs, oe.data = .fields vs) : CallR X (.builtin "isinstance") (rIsP X.K D a d) := by
  intro pins s σ H xs us Q I r h
  obtain ⟨c, cv, b, fs, rfl, hd, hcv, e, q⟩ := h
  obtain ⟨u1, u2, rfl, r1, r2⟩ := vals2 r
  cases r1
  have ec := hcv _ r2
  subst ec
  obtain ⟨od, J, _⟩ := pin_inst hp I hz hf hd
  have hcl : (PySem.W.clsIn X.K D).isSome = true := by obtain ⟨cd, hc, _⟩ := PySem.W.any_some C.hd; rw [hc] <;> rfl
  exact PySem.W.kia_one (PySem.W.kitx_exc hcl C.hg C.hk C.hs C.ha C.hn C.ht C.hm) I.kIn J e (fun z => nomatch z) fun tk => ⟨.bl b, H, I.kept (t' := tk) fun _ _ z => z, rfl, q⟩
/-- isinstance(error, (c, ..)) -/
def rIsPT (K : PySem.W.Frag) (D a d : Addr) : List V → Hp → VK → Prop := fun xs H Q => ∃ (T : Addr) (cs : List Addr) (b : Bool) (fs : List (Str × V)), xs = [.ref a, .ref T] ∧ H T = some (.tup (cs.map V.ref)) ∧ H d = some (.xd fs) ∧ PySem.W.kitAny K (.ref D) (cs.map Value.ref) = some b ∧ Q (.bl b) H
theorem vals_refs : ∀ {cs : List Addr} {us : List Value}, Vals (cs.map V.ref) us → us = cs.map Value.ref
  | [], _, .nil => rfl
  | c :: cs, _, .cons r t => by
    cases r
    rw [vals_refs t]
    rfl
theorem call_isPT {d : Addr} (hp : (a, oe) ∈ X.pn) (C : ExcC X.K D) (hz : Zc (.ref D) (some d) oe) (hf : ∃ vs, oe.data = .fields vs) : CallR X (.builtin "isinstance") (rIsPT X.K D a d) := by
  intro pins s σ H xs us Q I r h
  obtain ⟨T, cs, b, fs, rfl, hT, hd, e, q⟩ := h
  obtain ⟨u1, u2, rfl, r1, r2⟩ := vals2 r
  cases r1
  cases (show u2 = Value.ref T from r2)
  obtain ⟨od, J, _⟩ := pin_inst hp I hz hf hd
  obtain ⟨_, its, rv, o, h1, h2, n, h3⟩ := (show ObjOk X.prog X.w H s.heap T (.tup (cs.map V.ref)) from I.hok T _ hT)
  have e3 := vals_refs rv
  subst e3
  obtain ⟨oc, od', dt, sl⟩ := o
  dsimp only at h2 h3
  subst h2 h3
  have hcl : (PySem.W.clsIn X.K D).isSome = true := by obtain ⟨cd, hc, _⟩ := PySem.W.any_some C.hd; rw [hc] <;> rfl
  exact PySem.W.kia_tup (PySem.W.kitx_exc hcl C.hg C.hk C.hs C.ha C.hn C.ht C.hm) I.kIn J h1 e (fun z => nomatch z) fun tk => ⟨.bl b, H, I.tok tk, rfl, q⟩
end
section
variable {prog : Program} {w : World} {A : Around} {E : Value → Shared → Prop} {s : Shared} {K : PySem.W.Frag} {x y C f : Addr} {ox oy : Obj} {odx ody : Option Obj}
open PySem.W in
theorem callSp_K {M : Model} {name : Str} {args : List Value} {Q : Option Value → Shared → Prop} (X : K.In s.heap) (I : InstAt s.heap x ox C odx) (hs : findIn K (.ref C) name = some (some (.ref f))) (hf : isFn K (.ref f) = true)
    (h : wpAny M A (call (.ref f) (.ref x :: args)) (fun v => Q (some v)) E s) : wpAny M A (callSpecial? (.ref x) name args) Q E s := by
  unfold callSpecial? specialOf
  refine wpAny_bind (wpAny_bind (I.type.here ((looks_findIn X hs).here ?_)))
  refine wpAny_holding (wpAny_bind ((bind_fn X _ (beq_iff_eq.mp hf)).here ?_))
  exact wpAny_bind (wpAny_mono h (fun v s' z => wpAny_pure z) fun _ _ z => z)
/-- a value that an operator's method may hand back -/
def NotNI (Q : Value → Shared → Prop) : Value → Shared → Prop := fun v s' => v ≠ .notImplemented ∧ Q v s'
open PySem.W in
theorem tryM_K {M : Model} {name : Str} {b : Value} {Q : Option Value → Shared → Prop} (X : K.In s.heap) (I : InstAt s.heap x ox C odx) (hs : findIn K (.ref C) name = some (some (.ref f))) (hf : isFn K (.ref f) = true)
    (h : wpAny M A (call (.ref f) [.ref x, b]) (NotNI fun v => Q (some v)) E s) : wpAny M A (tryMethod (.ref x) name b) Q E s := by
  unfold tryMethod
  refine wpAny_bind (callSp_K X I hs hf (wpAny_mono h (fun v s' ⟨n, z⟩ => ?_) fun _ _ z => z))
  cases v <;> first | exact (n rfl).elim | exact wpAny_pure z
open PySem.W in
theorem fills_K {M : Model} {h : Heap} {nm : String} {r : List Value} {cd : ClassData} (X : K.In h) (hc : clsIn K C = some cd) (hm : cd.mro = .ref C :: r) (hs : findIn K (.ref C) (PySem.dunder nm) = some (some (.ref f))) : Looks M h (fillsNumberSlot (.ref C) nm) true := by
  intro A Q E s k q
  have L1 : Looks M h (mroOf (.ref C)) (.ref C :: r) := by
    rw [← hm]
    exact fun A Q E s k q => wpAny_bind ((looks_clsIn X hc) A _ E s k (wpAny_pure q))
  have L2 := looks_findIn (M := M) X hs
  unfold fillsNumberSlot
  refine wpAny_bind (L1 A _ E s k ?_)
  unfold List.anyM
  refine wpAny_bind (show wpAny M A (List.anyM _ [PySem.dunder nm, PySem.dunderR nm]) _ E s from ?_)
  unfold List.anyM
  refine wpAny_bind (wpAny_bind (L2 A _ E s k ?_))
  exact wpAny_pure (wpAny_pure (wpAny_pure q))
open PySem.W in
theorem bin1_K {nm : String} {r : List Value} {cd : ClassData} {Q : Option Value → Shared → Prop} (X : K.In s.heap) (I : InstAt s.heap x ox C odx) (J : InstAt s.heap y oy C ody) (hc : clsIn K C = some cd) (hm : cd.mro = .ref C :: r)
    (hs : findIn K (.ref C) (PySem.dunder nm) = some (some (.ref f))) (hf : isFn K (.ref f) = true) (h : wpAny (model prog w) A (call (.ref f) [.ref x, .ref y]) (NotNI fun v => Q (some v)) E s) : wpAny (model prog w) A (binaryOp1 nm (.ref x) (.ref y)) Q E s := by
  have LF := fills_K (M := model prog w) X hc hm hs
  unfold binaryOp1
  refine wpAny_bind (I.type.here (wpAny_bind (J.type.here (wpAny_bind (LF.here ?_)))))
  simp only [beq_self_eq_true, if_true]
  refine wpAny_bind (wpAny_pure ?_)
  simp only [Bool.and_false, Bool.false_and, Bool.false_eq_true, if_false, pure_bind, if_true]
  refine wpAny_bind (tryM_K X I hs hf (wpAny_mono h (fun v s' ⟨n, z⟩ => ⟨n, wpAny_pure z⟩) fun _ _ z => z))
open PySem.W in
theorem bin_K {op : Operator} {r : List Value} {cd : ClassData} {Q : Value → Shared → Prop} (X : K.In s.heap) (I : InstAt s.heap x ox C odx) (J : InstAt s.heap y oy C ody) (hc : clsIn K C = some cd) (hm : cd.mro = .ref C :: r)
    (hs : findIn K (.ref C) (PySem.dunder op.info.2) = some (some (.ref f))) (hf : isFn K (.ref f) = true) (h : wpAny (model prog w) A (call (.ref f) [.ref x, .ref y]) (NotNI Q) E s) : wpAny (model prog w) A (binaryOp op (.ref x) (.ref y)) Q E s := by
  unfold binaryOp
  refine wpAny_holding (wpAny_bind (bin1_K X I J hc hm hs hf (wpAny_mono h (fun v s' ⟨n, z⟩ => ⟨n, wpAny_pure z⟩) fun _ _ z => z)))
open PySem.W in
theorem inv_K {Q : Value → Shared → Prop} (X : K.In s.heap) (I : InstAt s.heap x ox C odx) (hs : findIn K (.ref C) "__invert__" = some (some (.ref f))) (hf : isFn K (.ref f) = true)
    (h : wpAny (model prog w) A (call (.ref f) [.ref x]) Q E s) : wpAny (model prog w) A (unaryOp .Invert (.ref x)) Q E s := by
  unfold unaryOp
  exact wpAny_holding (wpAny_bind (callSp_K X I hs hf (wpAny_mono h (fun v s' z => wpAny_pure z) fun _ _ z => z)))
end
/-- an own operator's method -/
structure OpM (P : Program) (w : World) (K : PySem.W.Frag) (mg : Str → Option Value) (base : Heap) (k : Nat) (C : Addr) (nm : Str) (sp : Sp) : Prop where
  ex : ∃ (f : Addr) (fd : FuncData) (ps : List Str) (cd : ClassData) (r : List Value), FnOk P w K mg base (L2.CX P w) k f fd ps sp ∧ Binds K fd ps [] ∧ PySem.W.clsIn K C = some cd ∧ cd.mro = .ref C :: r ∧ PySem.W.findIn K (.ref C) nm = some (some (.ref f)) ∧ PySem.W.isFn K (.ref f) = true
def tOwnBin (C : Addr) (sp : Sp) (E : L2.St → XK) (ta tb : TE) : TE := fun σ H Q => ta σ H fun x H1 => tb σ H1 fun y H2 => ∃ a dx fs b dy gs, x = .ref a ∧ y = .ref b ∧ H2 a = some (.ins C dx fs) ∧ H2 b = some (.ins C dy gs) ∧ sp [.ref a, .ref b] H2 (fun v H3 => (∃ c : Addr, v = .ref c) ∧ Q v H3) (E σ)
def tOwnUn (C : Addr) (sp : Sp) (E : L2.St → XK) (ta : TE) : TE := fun σ H Q => ta σ H fun x H1 => ∃ a dx fs, x = .ref a ∧ H1 a = some (.ins C dx fs) ∧ sp [.ref a] H1 Q (E σ)
section
variable {X : Cx} {k j : Nat} {C : Addr} {sp : Sp} {W : WX} {a b : Expr} {ta tb : TE} {pos : Pos} {op : Operator}
theorem pe_ownbin (c : OpM X.prog X.w X.K X.mg X.base k C (PySem.dunder op.info.2) sp) (hr : Room j X.A) (hk : k ≤ j) (tk : Takes X W) (ha : PE X a ta) (hb : PE X b tb) : PE X (.BinOp a op b pos) (tOwnBin C sp (WE W) ta tb) := by
  obtain ⟨f, fd, ps, cd, r, F, bd, hc, hm, hs, hf⟩ := c.ex
  refine ⟨fun pins s σ H Q I h => wpAny_BinOp (binT ha hb I h fun v u s2 x y H2 I2 rx ry q => ?_)⟩
  obtain ⟨p, dx, fs, p', dy, gs, rfl, rfl, e1, e2, q⟩ := q
  cases rx
  cases ry
  obtain ⟨m1, J1, _⟩ := ins_get I2.hok e1
  obtain ⟨m2, J2, _⟩ := ins_get I2.hok e2
  obtain ⟨od1, J1, _⟩ := J1.look
  obtain ⟨od2, J2, _⟩ := J2.look
  refine bin_K I2.kIn J1 J2 hc hm hs hf (thn (run_fnS (E := WE W) (us := [Value.ref p, Value.ref p']) (vs := [V.ref p, V.ref p']) F (hr.mono hk) bd (passAt tk σ) I2 (.cons rfl (.cons rfl .nil)) q) fun v s3 hv => ?_)
  obtain ⟨z, H3, I3, rz, ⟨c', ez⟩, q3⟩ := hv
  subst ez
  obtain rfl : v = Value.ref c' := rz
  exact ⟨(by intro z; cases z), .ref c', H3, I3, rfl, q3⟩
theorem pe_owninv (c : OpM X.prog X.w X.K X.mg X.base k C "__invert__" sp) (hr : Room j X.A) (hk : k ≤ j) (tk : Takes X W) (ha : PE X a ta) : PE X (.UnaryOp .Invert a pos) (tOwnUn C sp (WE W) ta) := by
  obtain ⟨f, fd, ps, cd, r, F, bd, hc, hm, hs, hf⟩ := c.ex
  refine ⟨fun pins s σ H Q I h => UnaryOp_ (thn (ha.run pins s σ H _ I h) fun v s2 ⟨x, H2, I2, rx, q⟩ => ?_)⟩
  obtain ⟨p, dx, fs, rfl, e1, q⟩ := q
  cases rx
  obtain ⟨m1, J1, _⟩ := ins_get I2.hok e1
  obtain ⟨od1, J1, _⟩ := J1.look
  exact inv_K I2.kIn J1 hs hf (run_fnS (E := WE W) (us := [Value.ref p]) (vs := [V.ref p]) F (hr.mono hk) bd (passAt tk σ) I2 (.cons rfl .nil) q)
theorem i_ownbin {E : L2.St → XK} {σ : L2.St} {H : Hp} {Q : VK} (q : ta σ H fun x H1 => tb σ H1 fun y H2 => ∃ a dx fs b dy gs, x = .ref a ∧ y = .ref b ∧ H2 a = some (.ins C dx fs) ∧ H2 b = some (.ins C dy gs) ∧ sp [.ref a, .ref b] H2 (fun v H3 => (∃ c : Addr, v = .ref c) ∧ Q v H3) (E σ)) : tOwnBin C sp E ta tb σ H Q := q
theorem i_ownun {E : L2.St → XK} {σ : L2.St} {H : Hp} {Q : VK} (q : ta σ H fun x H1 => ∃ a dx fs, x = .ref a ∧ H1 a = some (.ins C dx fs) ∧ sp [.ref a] H1 Q (E σ)) : tOwnUn C sp E ta σ H Q := q
end
/-- C.m, a static method that keeps sp -/
structure StM (P : Program) (w : World) (K : PySem.W.Frag) (mg : Str → Option Value) (base : Heap) (k : Nat) (x : Str) (C : Addr) (m : Str) (sp : Sp) : Prop where
  ex : ∃ (f p : Addr) (fd : FuncData) (ps : List Str) (r : List Value), FnOk P w K mg base C8.CX0 k f fd ps sp ∧ Binds K fd ps [] ∧ mg x = some (.ref C) ∧ PySem.W.keepIn K (.ref f) = true ∧ PySem.W.specialIn K (.ref C) "__getattribute__" = some (some (.builtin "type.__getattribute__")) ∧ PySem.W.typeIn K (.ref C) = some (.type "type") ∧
    PySem.W.readsIn K C (.type "type") = true ∧ PySem.W.findCls K (.ref C) (.type "type") m = some (.get (.builtin "staticmethod.__get__") (.ref p) .none (.ref C)) ∧ PySem.W.recIn K p "staticmethod" = some (.ref f :: r) ∧ PySem.W.handedIn (.ref f) = true
section
variable {X : Cx} {k j : Nat} {x m : Str} {C : Addr} {sp : Sp} {e : Expr} {es : List Expr} {t : TA} {p1 p2 pos : Pos}
theorem pe_stat {pl : Sem Bool} (c : StM X.prog X.w X.K X.mg X.base k x C m sp) (hr : Room j X.A) (hk : k ≤ j) (hg : Gl X x) (ha : PA X (e :: es) t)
    (hdb : (x == ("__debug__" : Str)) = false := by decide) (he : starEach (e :: es) X.env = (false, eval e X.env) :: starEach es X.env := by rfl) (hpl : (backTo pos (starEach es X.env)).any (·.1) = false := by rfl)
    (ht : eval (.Call (.Attribute (.Name x p1) m p2) (e :: es) [] pos) X.env = (do
      let ov ← eval (.Name x p1) X.env
      standAt p2.atName
      let (f, first) ← holding [ov] (getMethod ov m pl)
      callWith pos f first (backTo pos (starEach (e :: es) X.env)) (backToKw pos (keywordEach [] X.env))) := by rfl) : PE X (.Call (.Attribute (.Name x p1) m p2) (e :: es) [] pos) (tCall sp [] C8.E0 t) := by
  obtain ⟨f, p, fd, ps, r, F, b, hm, kp, hga, hty, hrd, hfc, hrec, hv⟩ := c.ex
  refine ⟨fun pins s σ H Q I h => ?_⟩
  refine PySem.W.methodCall_KW (pl := pl) (ld_glob I hg hm ?_ hdb) ht
  obtain ⟨ml, fr⟩ := I.fr
  refine PySem.W.method_of_cls fr I.ok.mod.kin hga (PySem.W.cls_sm fr I.ok.mod.kin hty hrd hfc hrec hv ?_)
  exact PySem.W.callWith_K (h₀ := X.base) I.ok.mod.kin kp (thn (ha.run pos pins _ σ H _ (I.tok _) h) fun us s1 ⟨vs, H1, I1, r1, q⟩ => ⟨I1.kIn, run_fn F (hr.mono hk) b .nil C8.pass0 I1 r1 q⟩) he hpl
end
theorem i_mt {C : Addr} {m : Str} {sp : Sp} {E : XK} {ta : TE} {t : TA} {σ : L2.St} {H : Hp} {Q : VK} (q : ta σ H fun x H1 => ∃ a dx fs, x = .ref a ∧ H1 a = some (.ins C dx fs) ∧ fs.lookup m = none ∧ t σ H1 fun vs H2 => sp (x :: vs) H2 Q E) : tMeth C m sp [] E ta t σ H Q := by
  refine cast ?_ q
  unfold tMeth
  simp only [List.append_nil]
theorem pgTupK {X : Cx} (K : PySem.W.Frag) (h : X.K = K) {es : List Expr} {k : Nat} {t : TGs} {n : Nat} {pos : Pos} (hc : X.calm = true) (hg : PGs X es t) (hn : (assignEach es X.env).length = n := by rfl) (hst : (assignEach es X.env).findIdx? (·.1) = none := by rfl) : PG X (.Tuple es k pos) (gTup K n t) := by
  subst h
  exact pg_tup hc hg hn hst
theorem SX_inj {a b : List Nat} (h : SX.S a = SX.S b) : a = b := by
  have e : (SX.S a).cps.toList = (SX.S b).cps.toList := by rw [h]
  simpa [SX.S] using e
theorem i_xp {a d : Addr} {f : Str} {te : TE} {σ : L2.St} {H : Hp} {Q : VK} (q : te σ H fun x H1 => x = .ref a ∧ ∃ (fs : List (Str × V)) (v : V), H1 d = some (.xd fs) ∧ fs.lookup f = some v ∧ Q v H1) : tXp a d f te σ H Q := q
theorem roomS {k : Nat} {A : Around} {v : Option Value} (hr : Room k A) : RoomH k (A.mark v) := ⟨hr.dp, hr.un⟩
end X7
namespace U
open PySem PySem.Spec PyProof.Rows L2
section
variable {S : AS} {H0 H H' H3 H4 : Hp} {D E : Addr} {m n i j u : Nat}
/-- a list of whole numbers below n that grows at E -/
def CelInv (S : AS) (H : Hp) (E : Addr) (n i : Nat) (H' : Hp) : Prop := Ev S H H' ∧ ∃ ns : List Nat, ns.length = i ∧ (∀ t ∈ ns, t < n) ∧ H' E = some (.lst (ns.map vn))
/-- a list of such lists, each of m, that grows at D -/
def RowInv (S : AS) (H : Hp) (D : Addr) (m n i : Nat) (H' : Hp) : Prop := Ev S H H' ∧ ∃ (bs : List Addr) (rws : Rws), H' D = some (.lst (bs.map V.ref)) ∧ Paired (fun a r => Ints (fun b => S b ∨ b = D) H' a r) bs rws ∧ rws.length = i ∧ ∀ r ∈ rws, r.length = m ∧ ∀ t ∈ r, t < n
theorem CelInv.start (hS : Srcs S H) (hE : H E = none) : CelInv S H E n 0 (upd H E (.lst [])) := ⟨.laid hS hE, [], rfl, by simp, upd_same⟩
theorem CelInv.src (c : CelInv S H E n i H') : Srcs S H' := c.1.src
theorem CelInv.add (c : CelInv S H E n j H3) (hS : Srcs S H) (hE : H E = none) (e : Ev S H3 H4) (hu : u < n) (hj : j < 1000000) : ∃ acc, H4 E = some (.lst acc) ∧ acc.length < sizeLine ∧ CelInv S H E n (j + 1) (upd H4 E (.lst (acc ++ [vn u]))) := by
  obtain ⟨e3, ns, hns, hns2, hE3⟩ := c
  refine ⟨_, e.at (hS.notin hE) hE3, szlt (by rw [List.length_map]; omega), Ev.put hS (e3.trans e) hE, ns ++ [u], by simp [hns], fun z hz => ?_, by rw [upd_same, List.map_append]; rfl⟩
  rcases List.mem_append.mp hz with hz | hz
  · exact hns2 z hz
  · rw [List.mem_singleton.mp hz]; exact hu
theorem RowInv.start (hS : Srcs S H) (hD : H D = none) : RowInv S H D m n 0 (upd H D (.lst [])) := ⟨.laid hS hD, [], [], upd_same, .nil, rfl, by simp⟩
theorem RowInv.src (c : RowInv S H D m n i H') : Srcs S H' := c.1.src
theorem RowInv.step (c : RowInv S H D m n i H') (hS : Srcs S H) (hD : H D = none) (hE : H' E = none) (hc : CelInv S H' E n m H3) (hi : i < 1000000) : ∃ acc, H3 D = some (.lst acc) ∧ acc.length < sizeLine ∧ RowInv S H D m n (i + 1) (upd H3 D (.lst (acc ++ [.ref E]))) := by
  obtain ⟨e2', bs, rws, hD2, hbs, hlen, hrw⟩ := c
  obtain ⟨e3, ns, hns, hns2, hE3⟩ := hc
  have hED : E ≠ D := fun z => by rw [z, hD2] at hE; cases hE
  refine ⟨_, e3.at (hS.notin hD) hD2, szlt (by rw [List.length_map, hbs.length]; omega), Ev.put hS (e2'.trans e3) hD, bs ++ [E], rws ++ [ns], by rw [upd_same, List.map_append]; rfl, ?_, by simp [hlen], fun r hr => ?_⟩
  · have kk : Kp (fun b => S b ∨ b = D) H' (upd H3 D (.lst (bs.map V.ref ++ [V.ref E]))) := fun b u n z => by
      rw [upd_ne (fun y => n (.inr y))]
      exact e3.kp b u (fun y => n (.inl y)) z
    exact U.Paired.snoc (Paired.mapP hbs fun b r z => z.kp kk fun _ z => z) ⟨fun z => z.elim (e2'.src.notin hE) hED, false, by rw [upd_ne hED]; exact hE3⟩
  · rcases List.mem_append.mp hr with hr | hr
    · exact hrw r hr
    · rw [List.mem_singleton.mp hr]; exact ⟨hns, hns2⟩
/-- the rows are there: a machine's moves -/
theorem RowInv.done (c : RowInv S H D m n i H') (hS : Srcs S H) (hD : H D = none) : ∃ rws, Rows S H' D rws ∧ rws.length = i ∧ ∀ r ∈ rws, r.length = m ∧ ∀ t ∈ r, t < n := by
  obtain ⟨e2', bs, rws, hD2, hbs, hlen, hrw⟩ := c
  exact ⟨rws, ⟨hS.notin hD, false, bs, hD2, Paired.mapP hbs fun b r z => z.weak fun _ y => .inl y⟩, hlen, hrw⟩
theorem wf_of {rws : Rws} (hlen : rws.length = n) (h : ∀ r ∈ rws, r.length = m ∧ ∀ t ∈ r, t < n) (h0 : 0 < n) (h1 : n ≤ 60) (hm : m ≤ 3) : WF m rws := .of (by omega) (by omega) hm (fun r hr => (h r hr).1) (fun r hr t ht => by rw [hlen]; exact (h r hr).2 t ht)
end
def tInts : List Int → TA
  | [] => tNil
  | x :: r => tCons (tC (.int x)) (tInts r)
def tMenu : List (List Int) → TA
  | [] => tNil
  | x :: r => tCons (tTup (tInts x)) (tMenu r)
theorem tInts_read {σ : L2.St} : ∀ (xs : List Int) (H : Hp) (Q : List V → Hp → Prop), Q (xs.map V.int) H → tInts xs σ H Q
  | [], _, _, q => q
  | x :: r, H, Q, q => (show tCons (tC (.int x)) (tInts r) σ H Q from tInts_read r H (fun xs H2 => Q (.int x :: xs) H2) q)
theorem tMenu_read {σ : L2.St} : ∀ (L : List (List Int)) (H : Hp) (Q : List V → Hp → Prop), (∀ xs ∈ L, xs.length ≤ 1000) → (∀ as H', Same H H' → Paired (fun a (xs : List Int) => H a = none ∧ H' a = some (.tup (xs.map V.int))) as L → Q (as.map V.ref) H') → tMenu L σ H Q
  | [], H, Q, _, q => q [] H (Same.refl H) .nil
  | x :: r, H, Q, hl, q => (show tCons (tTup (tInts x)) (tMenu r) σ H Q from tInts_read x H _ ⟨szl (by rw [List.length_map]; have := hl x (List.mem_cons_self ..); omega), fun p hp =>
      tMenu_read r _ _ (fun xs hx => hl xs (List.mem_cons_of_mem _ hx)) fun as H' s h => q (p :: as) H' ((same_laid hp).trans s) (.cons ⟨hp, s _ _ upd_same⟩ (Paired.mapP h fun a xs z => ⟨same_free (same_laid hp) z.1, z.2⟩))⟩)
theorem menu_read {σ : L2.St} {H : Hp} {Q : VK} (L : List (List Int)) (hl : ∀ xs ∈ L, xs.length ≤ 1000) (hL : L.length ≤ 1000) (q : ∀ as p H', Same H H' → H p = none → H' p = some (.lst (as.map V.ref)) → Paired (fun a (xs : List Int) => H' a = some (.tup (xs.map V.int))) as L → Q (.ref p) H') : tLst (tMenu L) σ H Q := by
  refine i_lst (tMenu_read L H _ hl fun as H' s h => ⟨szl (by rw [List.length_map, h.length]; omega), fun p hp => ?_⟩)
  have s1 : Same H' (upd H' p (.lst (as.map V.ref))) := same_laid hp
  exact q as p _ (s.trans s1) (same_free s hp) upd_same (Paired.mapP h fun a xs z => s1 _ _ z.2)
def dStrsL (zs : List Str) : PyData := .list (zs.map PyData.str)
theorem dp_strs {K : PySem.W.Frag} {H : Hp} : ∀ zs : List Str, DpAll K H (zs.map V.str) (zs.map PyData.str)
  | [] => .nil
  | z :: zs => .cons (.str z) (dp_strs zs)
theorem eqvAll_strs : ∀ a b : List Str, PyData.eqvAll (a.map PyData.str) (b.map PyData.str) = decide (a = b)
  | [], [] => by simp [PyData.eqvAll]
  | [], _ :: _ => by simp [PyData.eqvAll]
  | _ :: _, [] => by simp [PyData.eqvAll]
  | x :: a, y :: b => by
    rw [List.map_cons, List.map_cons, PyData.eqvAll, eqvAll_strs a b, PyData.eqv]
    by_cases h : x = y
    · subst h; simp
    · simp [h]
theorem lay_strs : ∀ a : List Str, (∀ z ∈ a, PyData.strOk z = true) → PyData.canLayAll0 (a.map PyData.str) = true ∧ PyData.depthAll (a.map PyData.str) = 0
  | [], _ => by simp [PyData.canLayAll0, PyData.depthAll]
  | x :: a, hl => by
    have h := lay_strs a fun z hz => hl z (List.mem_cons_of_mem _ hz)
    rw [List.map_cons, PyData.canLayAll0, PyData.depthAll, h.1, h.2]
    simp [PyData.canLay0, PyData.depth, hl x (List.mem_cons_self ..)]
theorem i_eqStrsL {K : PySem.W.Frag} {H : Hp} {Q : VK} {p q : Addr} {a b : List Str} (hla : ∀ z ∈ a, PyData.strOk z = true) (hlb : ∀ z ∈ b, PyData.strOk z = true) (h : H p = some (.lst (a.map V.str))) (h' : H q = some (.lst (b.map V.str))) (k : Q (.bl (decide (a = b))) H) : rEqD K (.ref p) (.ref q) H Q := by
  have sh : ∀ c : List Str, (∀ z ∈ c, PyData.strOk z = true) → SeqAt.shaped (dStrsL c) = true := fun c hc => by
    have h := lay_strs c hc
    unfold SeqAt.shaped
    rw [dStrsL, PyData.canLay0, PyData.depth, h.1, h.2]
    decide
  exact ⟨dStrsL a, dStrsL b, .lst (SqL.of h) (dp_strs a), .lst (SqL.of h') (dp_strs b), sh a hla, sh b hlb, by rw [dStrsL, dStrsL, PyData.eqv, eqvAll_strs]; exact k⟩
theorem i_neStrsL {K : PySem.W.Frag} {H : Hp} {Q : VK} {p q : Addr} {a b : List Str} (hla : ∀ z ∈ a, PyData.strOk z = true) (hlb : ∀ z ∈ b, PyData.strOk z = true) (h : H p = some (.lst (a.map V.str))) (h' : H q = some (.lst (b.map V.str))) (k : Q (.bl (!decide (a = b))) H) : rNeD K (.ref p) (.ref q) H Q := by
  have sh : ∀ c : List Str, (∀ z ∈ c, PyData.strOk z = true) → SeqAt.shaped (dStrsL c) = true := fun c hc => by
    have h := lay_strs c hc
    unfold SeqAt.shaped
    rw [dStrsL, PyData.canLay0, PyData.depth, h.1, h.2]
    decide
  exact ⟨dStrsL a, dStrsL b, .lst (SqL.of h) (dp_strs a), .lst (SqL.of h') (dp_strs b), sh a hla, sh b hlb, by rw [dStrsL, dStrsL, PyData.eqv, eqvAll_strs]; exact k⟩
end U
namespace U
open PySem PySem.Spec PyProof.Rows L2
theorem menu_at {H : Hp} {as : List Addr} {L : List (List Int)} (h : Paired (fun a (xs : List Int) => H a = some (.tup (xs.map V.int))) as L) {d : Nat} (hd : d < L.length) : ∃ a xs, as[d]? = some a ∧ xs ∈ L ∧ H a = some (.tup (xs.map V.int)) := by
  obtain ⟨xs, hx⟩ : ∃ xs, L[d]? = some xs := ⟨_, List.getElem?_eq_getElem hd⟩
  obtain ⟨a, ha, hr⟩ := Paired.at1 h hx
  exact ⟨a, xs, ha, List.mem_of_getElem? hx, hr⟩
theorem Ev.tup {S : AS} {H H' : Hp} {a : Addr} {xs : List V} (hS : Srcs S H) (e : Ev S H H') (h : H a = some (.tup xs)) : H' a = some (.tup xs) := e.at (hS.nottup h) h
end U
namespace U
open PySem PySem.Spec PyProof.Rows L2
/-- an ascending list of whole numbers that grows at G -/
def FilInv (S : AS) (H : Hp) (G : Addr) (i : Nat) (H' : Hp) : Prop := Ev S H H' ∧ ∃ gd : List Nat, H' G = some (.lst (gd.map vn)) ∧ gd.Pairwise (· < ·) ∧ (∀ x ∈ gd, x < i) ∧ gd.length ≤ i
section
variable {S : AS} {H H' H3 : Hp} {G : Addr} {i : Nat}
theorem FilInv.start (hS : Srcs S H) (hG : H G = none) : FilInv S H G 0 (upd H G (.lst [])) := ⟨.laid hS hG, [], upd_same, .nil, by simp, Nat.le_refl _⟩
theorem FilInv.src (z : FilInv S H G i H') : Srcs S H' := z.1.src
theorem FilInv.add (z : FilInv S H G i H') (hS : Srcs S H) (hG : H G = none) (e3 : Ev S H' H3) (hi : i < 1000000) : ∃ acc, H3 G = some (.lst acc) ∧ acc.length < sizeLine ∧ FilInv S H G (i + 1) (upd H3 G (.lst (acc ++ [vn i]))) := by
  obtain ⟨e2, gd, hG2, hp, hlt, hle⟩ := z
  refine ⟨_, e3.at (hS.notin hG) hG2, szlt (by rw [List.length_map]; omega), Ev.put hS (e2.trans e3) hG, gd ++ [i], by rw [upd_same, List.map_append]; rfl, ?_, fun y hy => ?_, by simp; omega⟩
  · rw [List.pairwise_append]
    exact ⟨hp, by simp, fun y hy z hz => by rw [List.mem_singleton.mp hz]; exact hlt y hy⟩
  · rcases List.mem_append.mp hy with hy | hy
    · have := hlt y hy; omega
    · rw [List.mem_singleton.mp hy]; omega
theorem FilInv.skip (z : FilInv S H G i H') (hS : Srcs S H) (hG : H G = none) (e3 : Ev S H' H3) : FilInv S H G (i + 1) H3 := by
  obtain ⟨e2, gd, hG2, hp, hlt, hle⟩ := z
  exact ⟨e2.trans e3, gd, e3.at (hS.notin hG) hG2, hp, fun y hy => by have := hlt y hy; omega, by omega⟩
theorem FilInv.done (z : FilInv S H G i H') (hS : Srcs S H) (hG : H G = none) : ∃ gd, Ints S H' G gd ∧ GOK i gd := by
  obtain ⟨e2, gd, hG2, hp, hlt, hle⟩ := z
  exact ⟨gd, ⟨hS.notin hG, false, hG2⟩, hp, hlt⟩
end
theorem GOK.up {n k : Nat} {gd : List Nat} (g : GOK n gd) (h : n ≤ k) : GOK k gd := ⟨g.inc, fun x hx => Nat.lt_of_lt_of_le (g.lt x hx) h⟩
theorem Mach.srcs {S : AS} {H H' : Hp} {p : Addr} {rs : Rws} {gd : List Nat} (h : Mach (Old H) H' p rs gd) (hS : Srcs S H) : Mach S H' p rs gd := h.weak fun _ z => hS.old z
end U
namespace X
open PySem PySem.Spec PyProof.Rows L2 C8 U
open X7
def top (i : Nat) : Stmt := PySem.Challenge.pw_untoldlots_k11_whole_parted_least.main.body.getD i (.Pass ⟨0, 0, 0, 0⟩)
def SMALL : Str := "abcdefghijklmnopqrstuvwxyz"
/-- the error classes -/
structure Er where
  LotsError : Addr
  WrongThing : Addr
  WrongItem : Addr
  TooMany : Addr
  Unlike : Addr
  NoName : Addr
/-- what the written part says of an error class at E that holds its __init__ -/
structure ErF (K : PySem.W.Frag) (r : Er) (E : Addr) (bT bU : Bool) : Prop where
  ex : PySem.W.exmOne K (.ref E) (.ref r.LotsError) = some true
  xc : ExcC K E
  xf : XfC K E
  nw : PySem.W.findIn K (.ref E) "what" = some none
  kv : PySem.W.kitOne K (.ref E) (.type "ValueError") = some true
  kt : PySem.W.kitOne K (.ref E) (.ref r.TooMany) = some bT
  ku : PySem.W.kitOne K (.ref E) (.ref r.Unlike) = some bU
  ko : bT = false → PySem.W.kitAny K (.ref E) [.ref r.NoName, .ref r.TooMany, .ref r.WrongItem, .ref r.WrongThing] = some false
/-- what the top leaves -/
structure Txt (K : PySem.W.Frag) (mg : Str → Option Value) (C : Addr) (r : Er) : Prop where
  b_int : mg "int" = none
  b_len : mg "len" = none
  b_abs : mg "abs" = none
  b_range : mg "range" = none
  b_tuple : mg "tuple" = none
  b_list : mg "list" = none
  b_isinstance : mg "isinstance" = none
  b_all : mg "all" = none
  b_any : mg "any" = none
  b_enumerate : mg "enumerate" = none
  b_min : mg "min" = none
  b_str : mg "str" = none
  b_bool : mg "bool" = none
  b_set : mg "set" = none
  b_repr : mg "repr" = none
  b_sum : mg "sum" = none
  b_sorted : mg "sorted" = none
  b_ValueError : mg "ValueError" = none
  b_super : mg "super" = none
  c_MOST_ROOMS : ∃ u, mg "MOST_ROOMS" = some u ∧ RelV (.int 60) u
  c_TEXT_LETTERS : ∃ u, mg "TEXT_LETTERS" = some u ∧ RelV (.int 40) u
  c_MOST_NUMBER : ∃ u, mg "MOST_NUMBER" = some u ∧ RelV (.int 100) u
  c_SMALL : ∃ u, mg "SMALL" = some u ∧ RelV (.str SMALL) u
  cl : Cls K C
  nA : NoAttr K C "alphabet"
  nM : NoAttr K C "moves"
  nG : NoAttr K C "good"
  mg_Reader : mg "Reader" = some (.ref C)
  ins : InsC K C
  ne : PySem.W.findIn K (.ref C) "__ne__" = some (some (.builtin "object.__ne__"))
  mo : PySem.W.mroIn K C (.type "object") = some true
  kl : PySem.W.kitOne K (.ref C) (.type "list") = some false
  mg_LotsError : mg "LotsError" = some (.ref r.LotsError)
  mg_WrongThing : mg "WrongThing" = some (.ref r.WrongThing)
  mg_WrongItem : mg "WrongItem" = some (.ref r.WrongItem)
  mg_TooMany : mg "TooMany" = some (.ref r.TooMany)
  mg_Unlike : mg "Unlike" = some (.ref r.Unlike)
  mg_NoName : mg "NoName" = some (.ref r.NoName)
  eT : ErF K r r.TooMany true false
  eU : ErF K r r.Unlike false true
end X
namespace U
open PySem PySem.Spec PyProof.Rows L2
/-- the number of a word over m letters among all, by length, then by letters -/
def wnum (m : Nat) (w : List Nat) : Nat := w.foldl (fun n a => n * m + a + 1) 0
def Ok (m : Nat) (w : List Nat) : Prop := ∀ a ∈ w, a < m
theorem wnum_snoc (m : Nat) (w : List Nat) (a : Nat) : wnum m (w ++ [a]) = wnum m w * m + a + 1 := by simp [wnum]
theorem Ok.snoc {m : Nat} {w : List Nat} {a : Nat} (h : Ok m w) (ha : a < m) : Ok m (w ++ [a]) := fun b hb => by
  rcases List.mem_append.mp hb with hb | hb
  · exact h b hb
  · rw [List.mem_singleton.mp hb]; exact ha
theorem Ok.init {m : Nat} {w : List Nat} {a : Nat} (h : Ok m (w ++ [a])) : Ok m w ∧ a < m := ⟨fun b hb => h b (List.mem_append_left _ hb), h a (by simp)⟩
theorem snoc_cases (w : List Nat) : w = [] ∨ ∃ u a, w = u ++ [a] := by
  rcases List.eq_nil_or_concat w with h | ⟨u, a, h⟩
  · exact .inl h
  · exact .inr ⟨u, a, by rw [h, List.concat_eq_append]⟩
theorem divm {m n a n' a' : Nat} (ha : a < m) (ha' : a' < m) (h : n * m + a = n' * m + a') : n = n' ∧ a = a' := by
  have hm : 0 < m := by omega
  have h1 : (n * m + a) / m = n := by rw [Nat.mul_comm, Nat.mul_add_div hm, Nat.div_eq_of_lt ha]; rfl
  have h2 : (n' * m + a') / m = n' := by rw [Nat.mul_comm, Nat.mul_add_div hm, Nat.div_eq_of_lt ha']; rfl
  rw [h] at h1
  have e : n = n' := h1.symm.trans h2
  subst e
  exact ⟨rfl, by omega⟩
theorem wnum_inj {m : Nat} : ∀ (k : Nat) {u v : List Nat}, u.length = k → Ok m u → Ok m v → wnum m u = wnum m v → u = v
  | 0, u, v, hk, hu, hv, e => by
    have : u = [] := List.length_eq_zero_iff.mp hk
    subst this
    rcases snoc_cases v with rfl | ⟨v', a, rfl⟩
    · rfl
    · rw [wnum_snoc] at e
      simp [wnum] at e
  | k + 1, u, v, hk, hu, hv, e => by
    rcases snoc_cases u with rfl | ⟨u', a, rfl⟩
    · simp at hk
    · rcases snoc_cases v with rfl | ⟨v', b, rfl⟩
      · rw [wnum_snoc] at e
        simp [wnum] at e
      · rw [wnum_snoc, wnum_snoc] at e
        obtain ⟨hu', ha⟩ := hu.init
        obtain ⟨hv', hb⟩ := hv.init
        obtain ⟨e1, e2⟩ := divm ha hb (show wnum m u' * m + a = wnum m v' * m + b by omega)
        rw [wnum_inj k (by simp at hk; exact hk) hu' hv' e1, e2]
theorem Ok.inj {m : Nat} {u v : List Nat} (hu : Ok m u) (hv : Ok m v) (e : wnum m u = wnum m v) : u = v := wnum_inj _ rfl hu hv e
/-- the least word of a set -/
def LeastW (m : Nat) (P : List Nat → Prop) (r : Option (List Nat)) : Prop := (r = none ∧ ∀ u, Ok m u → ¬ P u) ∨ ∃ w, r = some w ∧ Ok m w ∧ P w ∧ ∀ u, Ok m u → P u → wnum m w ≤ wnum m u
theorem LeastW.uniq {m : Nat} {P Q : List Nat → Prop} {r r' : Option (List Nat)} (h : LeastW m P r) (h' : LeastW m Q r') (e : ∀ u, Ok m u → (P u ↔ Q u)) : r = r' := by
  rcases h with ⟨rfl, h⟩ | ⟨w, rfl, ow, pw, lw⟩
  · rcases h' with ⟨rfl, _⟩ | ⟨w', rfl, ow', pw', _⟩
    · rfl
    · exact absurd ((e _ ow').mpr pw') (h _ ow')
  · rcases h' with ⟨rfl, h'⟩ | ⟨w', rfl, ow', pw', lw'⟩
    · exact absurd ((e _ ow).mp pw) (h' _ ow)
    · rw [ow.inj ow' (Nat.le_antisymm (lw _ ow' ((e _ ow').mpr pw')) (lw' _ ow ((e _ ow).mp pw)))]
section
variable {α : Type} [DecidableEq α]
/-- places with the words to them: a word's neighbours are put behind -/
def addW (st : α → Nat → α) (x : α) (w : List Nat) (l : List (α × List Nat)) (a : Nat) : List (α × List Nat) := if st x a ∈ l.map Prod.fst then l else l ++ [(st x a, w ++ [a])]
def addsW (st : α → Nat → α) (x : α) (w : List Nat) (l : List (α × List Nat)) (n : Nat) : List (α × List Nat) := (List.range n).foldl (addW st x w) l
theorem addsW_succ (st : α → Nat → α) (x : α) (w : List Nat) (l : List (α × List Nat)) (n : Nat) : addsW st x w l (n + 1) = addW st x w (addsW st x w l n) n := by simp [addsW, List.range_succ]
def gW (m : Nat) (st : α → Nat → α) (s : α) : Nat → List (α × List Nat)
  | 0 => [(s, [])]
  | k + 1 => addsW st ((gW m st s k).getD k (s, [])).1 ((gW m st s k).getD k (s, [])).2 (gW m st s k) m
theorem addW_pre (st : α → Nat → α) (x : α) (w : List Nat) (l : List (α × List Nat)) (a : Nat) : ∃ z, addW st x w l a = l ++ z := by
  unfold addW
  split
  · exact ⟨[], by simp⟩
  · exact ⟨_, rfl⟩
theorem addsW_pre (st : α → Nat → α) (x : α) (w : List Nat) (l : List (α × List Nat)) : ∀ n, ∃ z, addsW st x w l n = l ++ z
  | 0 => ⟨[], by simp [addsW]⟩
  | n + 1 => by
    obtain ⟨z, e⟩ := addsW_pre st x w l n
    obtain ⟨z2, e2⟩ := addW_pre st x w (addsW st x w l n) n
    exact ⟨z ++ z2, by rw [addsW_succ, e2, e, List.append_assoc]⟩
theorem addW_map (st : α → Nat → α) (x : α) (w : List Nat) (l : List (α × List Nat)) (a : Nat) : (addW st x w l a).map Prod.fst = addN (l.map Prod.fst) (st x a) := by
  unfold addW addN
  split <;> simp
theorem addsW_map (st : α → Nat → α) (x : α) (w : List Nat) (l : List (α × List Nat)) : ∀ n, (addsW st x w l n).map Prod.fst = addsN (l.map Prod.fst) ((List.range n).map (st x))
  | 0 => rfl
  | n + 1 => by rw [addsW_succ, addW_map, addsW_map st x w l n, List.range_succ, List.map_append, List.map_singleton, addsN_snoc]
variable {m : Nat} {st : α → Nat → α} {s : α}
/-- the places are those met in order -/
theorem gW_map : ∀ k, (gW m st s k).map Prod.fst = gAt (fun x => (List.range m).map (st x)) s k
  | 0 => rfl
  | k + 1 => by
    have e : ((gW m st s k).getD k (s, [])).1 = (gAt (fun x => (List.range m).map (st x)) s k).getD k s := by
      rw [← gW_map k, List.getD_eq_getElem?_getD, List.getD_eq_getElem?_getD, List.getElem?_map]
      cases (gW m st s k)[k]? <;> rfl
    show (addsW _ _ _ _ _).map Prod.fst = addsN _ _
    rw [addsW_map, gW_map k, e]
theorem gW_len (k : Nat) : (gW m st s k).length = (gAt (fun x => (List.range m).map (st x)) s k).length := by rw [← gW_map k, List.length_map]
theorem gW_at {k : Nat} {x : α} {w : List Nat} (h : (gW m st s k)[k]? = some (x, w)) : gW m st s (k + 1) = addsW st x w (gW m st s k) m := by
  show addsW _ _ _ _ _ = _
  rw [List.getD_eq_getElem?_getD, h] <;> rfl
theorem gW_mono (k : Nat) : ∀ j, ∃ z, gW m st s (k + j) = gW m st s k ++ z
  | 0 => ⟨[], by simp⟩
  | j + 1 => by
    obtain ⟨z1, e1⟩ := gW_mono k j
    obtain ⟨z2, e2⟩ := addsW_pre st ((gW m st s (k + j)).getD (k + j) (s, [])).1 ((gW m st s (k + j)).getD (k + j) (s, [])).2 (gW m st s (k + j)) m
    exact ⟨z1 ++ z2, by rw [show k + (j + 1) = k + j + 1 from rfl]; show addsW _ _ _ _ _ = _; rw [e2, e1, List.append_assoc]⟩
theorem gW_up {k l q : Nat} {p : α × List Nat} (h : (gW m st s k)[q]? = some p) (hl : k ≤ l) : (gW m st s l)[q]? = some p := by
  obtain ⟨j, rfl⟩ : ∃ j, l = k + j := ⟨l - k, by omega⟩
  obtain ⟨z, e⟩ := gW_mono (m := m) (st := st) (s := s) k j
  rw [e, List.getElem?_append_left (List.getElem?_eq_some_iff.mp h).1]
  exact h
/-- what is known of a list of places with words -/
structure Wds (m : Nat) (st : α → Nat → α) (s : α) (l : List (α × List Nat)) (N : Nat) : Prop where
  ok : ∀ p ∈ l, Ok m p.2 ∧ gRun st s p.2 = p.1
  lg : ∀ (i : Nat) (p : α × List Nat), l[i]? = some p → p.2.length ≤ i
  inc : l.Pairwise fun p q => wnum m p.2 < wnum m q.2
  bd : ∀ p ∈ l, wnum m p.2 < N
  cov : ∀ u, Ok m u → wnum m u < N → ∃ p ∈ l, p.1 = gRun st s u ∧ wnum m p.2 ≤ wnum m u
theorem gRun_snoc (st : α → Nat → α) (x : α) (w : List Nat) (a : Nat) : gRun st x (w ++ [a]) = st (gRun st x w) a := by simp [gRun]
theorem Wds.add {l : List (α × List Nat)} {x : α} {w : List Nat} {a : Nat} (h : Wds m st s l (wnum m w * m + a + 1)) (hw : Ok m w) (hx : gRun st s w = x) (hl : w.length < l.length) (ha : a < m) : Wds m st s (addW st x w l a) (wnum m w * m + a + 2) := by
  have hn : wnum m (w ++ [a]) = wnum m w * m + a + 1 := wnum_snoc m w a
  have hr : gRun st s (w ++ [a]) = st x a := by rw [gRun_snoc, hx]
  have cov' : ∀ l' : List (α × List Nat), (∀ p ∈ l, p ∈ l') → (∃ p ∈ l', p.1 = st x a ∧ wnum m p.2 ≤ wnum m w * m + a + 1) → ∀ u, Ok m u → wnum m u < wnum m w * m + a + 2 → ∃ p ∈ l', p.1 = gRun st s u ∧ wnum m p.2 ≤ wnum m u := fun l' hs hp u hu hlt => by
    by_cases e : wnum m u < wnum m w * m + a + 1
    · obtain ⟨p, h1, h2⟩ := h.cov u hu e
      exact ⟨p, hs p h1, h2⟩
    · have e2 : wnum m u = wnum m (w ++ [a]) := by omega
      have e3 := hu.inj (hw.snoc ha) e2
      subst e3
      obtain ⟨p, h1, h2, h3⟩ := hp
      exact ⟨p, h1, by rw [h2, hr], by omega⟩
  unfold addW
  by_cases hm : st x a ∈ l.map Prod.fst
  · rw [if_pos hm]
    obtain ⟨p, h1, h2⟩ := List.mem_map.mp hm
    exact ⟨h.ok, h.lg, h.inc, fun p hp => Nat.lt_succ_of_lt (h.bd p hp), cov' l (fun _ z => z) ⟨p, h1, h2, Nat.le_of_lt (h.bd p h1)⟩⟩
  · rw [if_neg hm]
    refine ⟨fun p hp => ?_, fun i p hp => ?_, ?_, fun p hp => ?_, cov' _ (fun p hp => List.mem_append_left _ hp) ⟨_, List.mem_append_right _ (List.mem_singleton.mpr rfl), rfl, by rw [hn] <;> omega⟩⟩
    · rcases List.mem_append.mp hp with hp | hp
      · exact h.ok p hp
      · rw [List.mem_singleton.mp hp]
        exact ⟨hw.snoc ha, hr⟩
    · rcases Nat.lt_or_ge i l.length with z | z
      · rw [List.getElem?_append_left z] at hp
        exact h.lg i p hp
      · rw [List.getElem?_append_right z] at hp
        have hz : i - l.length = 0 := by
          have := (List.getElem?_eq_some_iff.mp hp).1
          simp at this
          omega
        rw [hz] at hp
        cases hp
        rw [List.length_append]
        show w.length + 1 ≤ i
        omega
    · rw [List.pairwise_append]
      refine ⟨h.inc, by simp, fun p hp q hq => ?_⟩
      rw [List.mem_singleton.mp hq, hn]
      exact h.bd p hp
    · rcases List.mem_append.mp hp with hp | hp
      · exact Nat.lt_succ_of_lt (h.bd p hp)
      · rw [List.mem_singleton.mp hp]
        show wnum m (w ++ [a]) < _
        omega
theorem Wds.adds {l : List (α × List Nat)} {x : α} {w : List Nat} (h : Wds m st s l (wnum m w * m + 1)) (hw : Ok m w) (hx : gRun st s w = x) (hl : w.length < l.length) : ∀ n, n ≤ m → Wds m st s (addsW st x w l n) (wnum m w * m + n + 1)
  | 0, _ => h
  | n + 1, hn => by
    rw [addsW_succ]
    obtain ⟨z, e⟩ := addsW_pre st x w l n
    exact (h.adds hw hx hl n (by omega)).add hw hx (by rw [e, List.length_append]; omega) (by omega)
theorem inc_lt {l : List (α × List Nat)} (h : l.Pairwise fun p q => wnum m p.2 < wnum m q.2) {i j : Nat} {p q : α × List Nat} (hi : l[i]? = some p) (hj : l[j]? = some q) (hn : wnum m p.2 < wnum m q.2) : i < j := by
  rcases Nat.lt_trichotomy i j with z | z | z
  · exact z
  · subst z
    rw [hi] at hj
    cases hj
    omega
  · obtain ⟨h1, e1⟩ := List.getElem?_eq_some_iff.mp hi
    obtain ⟨h2, e2⟩ := List.getElem?_eq_some_iff.mp hj
    have := List.pairwise_iff_getElem.mp h j i h2 h1 z
    rw [e1, e2] at this
    omega
/-- so far as places were gone through one at a time -/
theorem gW_ok (hm : 0 < m) (k : Nat) : (∀ q, q < k → q < (gW m st s q).length) → ∀ p, (gW m st s k)[k]? = some p → Wds m st s (gW m st s k) (wnum m p.2 * m + 1) ∧ p.2.length < (gW m st s k).length ∧ Ok m p.2 ∧ gRun st s p.2 = p.1 := by
  induction k using Nat.strongRecOn with
  | ind k ih =>
  intro hq p hp
  cases k with
  | zero =>
    cases hp
    refine ⟨⟨fun p hp => ?_, fun i p hp => ?_, by simp [gW], fun p hp => ?_, fun u hu hlt => ?_⟩, by show 0 < 1; decide, fun a h => by simp at h, rfl⟩
    · rw [List.mem_singleton.mp hp]
      exact ⟨fun a h => by simp at h, rfl⟩
    · have hi := (List.getElem?_eq_some_iff.mp hp).1
      have hi : i < 1 := hi
      have hi : i = 0 := by omega
      subst hi
      cases hp
      exact Nat.le_refl _
    · rw [List.mem_singleton.mp hp]
      show wnum m [] < _
      simp [wnum]
    · have h0 : wnum m u = 0 := by
        have hlt : wnum m u < 0 * m + 1 := hlt
        omega
      rcases snoc_cases u with rfl | ⟨v, a, rfl⟩
      · exact ⟨_, List.mem_singleton.mpr rfl, rfl, Nat.le_refl _⟩
      · rw [wnum_snoc] at h0
        omega
  | succ k =>
    obtain ⟨⟨x, w⟩, hx⟩ : ∃ y, (gW m st s k)[k]? = some y := ⟨_, List.getElem?_eq_getElem (hq k (Nat.lt_succ_self k))⟩
    obtain ⟨W, hlen, how, hrw⟩ := ih k (Nat.lt_succ_self k) (fun q h => hq q (Nat.lt_succ_of_lt h)) _ hx
    have W2 : Wds m st s (addsW st x w (gW m st s k) m) (wnum m w * m + m + 1) := W.adds how hrw hlen m (Nat.le_refl _)
    rw [← gW_at hx] at W2
    have hpm := List.mem_of_getElem? hp
    obtain ⟨ho, hr⟩ := W2.ok p hpm
    have hxk := gW_up hx (Nat.le_succ k)
    have hlt : wnum m w < wnum m p.2 := by
      obtain ⟨h1, e1⟩ := List.getElem?_eq_some_iff.mp hxk
      obtain ⟨h2, e2⟩ := List.getElem?_eq_some_iff.mp hp
      have := List.pairwise_iff_getElem.mp W2.inc k (k + 1) h1 h2 (Nat.lt_succ_self k)
      rw [e1, e2] at this
      exact this
    have hmul : wnum m w * m + m ≤ wnum m p.2 * m := by
      have := Nat.mul_le_mul_right m (show wnum m w + 1 ≤ wnum m p.2 from hlt)
      rw [Nat.add_mul, Nat.one_mul] at this
      exact this
    have hbp := W2.bd p hpm
    refine ⟨⟨W2.ok, W2.lg, W2.inc, fun q hqm => Nat.lt_of_lt_of_le (W2.bd q hqm) (by omega), fun u hu hlt' => ?_⟩, Nat.lt_of_le_of_lt (W2.lg _ _ hp) (List.getElem?_eq_some_iff.mp hp).1, ho, hr⟩
    rcases snoc_cases u with rfl | ⟨v, b, rfl⟩
    · exact W2.cov [] hu (by simp [wnum])
    · obtain ⟨hv, hb⟩ := hu.init
      rw [wnum_snoc] at hlt'
      have hv2 : wnum m v < wnum m p.2 := by
        rcases Nat.lt_or_ge (wnum m v) (wnum m p.2) with z | z
        · exact z
        · have := Nat.mul_le_mul_right m z
          omega
      obtain ⟨p', hp', e', l'⟩ := W2.cov v hv (by omega)
      obtain ⟨j, hj⟩ := List.mem_iff_getElem?.mp hp'
      have hjk := inc_lt W2.inc hj hp (by omega)
      have hjj : (gW m st s j)[j]? = some p' := by
        have hjl : j < (gW m st s j).length := hq j hjk
        have := gW_up (l := k + 1) (List.getElem?_eq_getElem hjl) (by omega)
        rw [hj] at this
        rw [List.getElem?_eq_getElem hjl, ← this]
      obtain ⟨W3, hlen3, how3, hrw3⟩ := ih j hjk (fun q h => hq q (by omega)) _ hjj
      have W4 := W3.adds how3 hrw3 hlen3 m (Nat.le_refl _)
      obtain ⟨x', w'⟩ := p'
      rw [← gW_at hjj] at W4
      have hle : wnum m w' * m ≤ wnum m v * m := Nat.mul_le_mul_right m l'
      obtain ⟨q, hq1, hq2, hq3⟩ := W4.cov (w' ++ [b]) (how3.snoc hb) (by rw [wnum_snoc]; show _ < wnum m w' * m + m + 1; omega)
      obtain ⟨i, hi⟩ := List.mem_iff_getElem?.mp hq1
      refine ⟨q, List.mem_of_getElem? (gW_up hi (by omega)), ?_, ?_⟩
      · rw [hq2, gRun_snoc, gRun_snoc, hrw3]
        show st x' b = _
        rw [show x' = gRun st s v from e']
      · rw [wnum_snoc] at hq3 ⊢
        omega
/-- the search that asks a place when it is gone through: the first one that is wanted has the least word -/
theorem gW_least (hm : 0 < m) {f : α → Bool} {k : Nat} (hq : ∀ q, q < k → q < (gW m st s q).length) {x : α} {w : List Nat} (hp : (gW m st s k)[k]? = some (x, w)) (hf : f x = true) (hn : ∀ q, q < k → ∀ y v, (gW m st s k)[q]? = some (y, v) → f y = false) : LeastW m (fun u => f (gRun st s u) = true) (some w) := by
  obtain ⟨W, hlen, how, hrw⟩ := gW_ok hm k hq _ hp
  refine .inr ⟨w, rfl, how, by show f (gRun st s w) = true; rw [show gRun st s w = x from hrw]; exact hf, fun u hu hP => ?_⟩
  rcases Nat.lt_or_ge (wnum m u) (wnum m w) with z | z
  · obtain ⟨p, h1, h2, h3⟩ := W.cov u hu (by
      show _ < wnum m w * m + 1
      have := Nat.le_mul_of_pos_right (wnum m w) hm
      omega)
    obtain ⟨j, hj⟩ := List.mem_iff_getElem?.mp h1
    have := inc_lt W.inc hj hp (by show _ < wnum m w; omega)
    have := hn j this p.1 p.2 hj
    rw [h2] at this
    have hP : f (gRun st s u) = true := hP
    rw [this] at hP
    cases hP
  · exact z
/-- the search that asks a place when it is met -/
theorem gW_met (hm : 0 < m) {f : α → Bool} {k : Nat} (hq : ∀ q, q < k → q < (gW m st s q).length) {x : α} {w : List Nat} (hp : (gW m st s k)[k]? = some (x, w)) {a : Nat} (ha : a < m) (hf : f (st x a) = true) (hn : ∀ p ∈ addsW st x w (gW m st s k) a, f p.1 = false) : LeastW m (fun u => f (gRun st s u) = true) (some (w ++ [a])) := by
  obtain ⟨W, hlen, how, hrw⟩ := gW_ok hm k hq _ hp
  have W2 : Wds m st s (addsW st x w (gW m st s k) a) (wnum m w * m + a + 1) := W.adds how hrw hlen a (by omega)
  refine .inr ⟨w ++ [a], rfl, how.snoc ha, by show f (gRun st s (w ++ [a])) = true; rw [gRun_snoc, show gRun st s w = x from hrw]; exact hf, fun u hu hP => ?_⟩
  rcases Nat.lt_or_ge (wnum m u) (wnum m (w ++ [a])) with z | z
  · rw [wnum_snoc] at z
    obtain ⟨p, h1, h2, h3⟩ := W2.cov u hu z
    have := hn p h1
    rw [h2] at this
    have hP : f (gRun st s u) = true := hP
    rw [this] at hP
    cases hP
  · exact z
/-- all were gone through: none is wanted -/
theorem gW_none {f : α → Bool} {k : Nat} (d : Done (fun x => (List.range m).map (st x)) s k) (hn : ∀ p ∈ gW m st s k, f p.1 = false) : LeastW m (fun u => f (gRun st s u) = true) none := by
  refine .inl ⟨rfl, fun u hu hP => ?_⟩
  have h := (gRun_eq (m := m) d (st := st) (fun x _ a ha => by rw [List.getElem?_map, List.getElem?_range ha] <;> rfl) u s (g_has k) hu).1
  rw [← gW_map k] at h
  obtain ⟨p, hp, e⟩ := List.mem_map.mp h
  have := hn p hp
  rw [e, hP] at this
  cases this
end
end U
namespace U
open PySem PySem.Spec PyProof.Rows L2
theorem LeastW.congr {m : Nat} {P Q : List Nat → Prop} {r : Option (List Nat)} (h : LeastW m P r) (e : ∀ u, Ok m u → (P u ↔ Q u)) : LeastW m Q r := by
  rcases h with ⟨rfl, h⟩ | ⟨w, rfl, ow, pw, lw⟩
  · exact .inl ⟨rfl, fun u hu q => h u hu ((e u hu).mpr q)⟩
  · exact .inr ⟨w, rfl, ow, (e w ow).mp pw, fun u hu q => lw u hu ((e u hu).mpr q)⟩
/-- the text of a word -/
def spl (al w : List Nat) : List Nat := w.map fun a => al.getD a 0
def txtO (al : List Nat) : Option (List Nat) → V
  | none => .non
  | some w => .str (SX.S (spl al w))
end U
namespace U
open PySem PySem.Spec PyProof.Rows L2
section
variable {K : PySem.W.Frag} {H H' : Hp} {Q : VK}
theorem i_snocT {b T : Addr} {xs : List V} {y : V} (hb : H b = some (.tup xs)) (hT : H T = some (.tup [y])) (hl : xs.length ≤ 1000000) (q : ∀ p H', Same H H' → H' p = some (.tup (xs ++ [y])) → (H p = none ∨ p = T) → Q (.ref p) H') : rCatA K (.ref b) (.ref T) H Q := by
  refine ⟨b, T, xs, [y], rfl, rfl, SqT.of hb, SqT.of hT, szl (by show xs.length + 1 ≤ _; omega), fun e => ?_, fun _ e => (by cases e), fun _ _ p hp => q p _ (same_laid hp) upd_same (.inl hp)⟩
  subst e
  exact q T H (Same.refl H) hT (.inr rfl)
/-- rooms with the words to them, as tuples -/
def LvR (H : Hp) (as : List Addr) (l : List (Nat × List Nat)) : Prop := Paired (fun a (p : Nat × List Nat) => ∃ b, H a = some (.tup [vn p.1, .ref b]) ∧ H b = some (.tup (p.2.map vn))) as l
theorem LvR.same {as : List Addr} {l : List (Nat × List Nat)} (h : LvR H as l) (s : Same H H') : LvR H' as l := Paired.mapP h fun a p ⟨b, h1, h2⟩ => ⟨b, s _ _ h1, s _ _ h2⟩
theorem LvR.upd {as : List Addr} {l : List (Nat × List Nat)} {D : Addr} {o : HO} (h : LvR H as l) (hn : ∀ vs, H D ≠ some (.tup vs)) : LvR (upd H D o) as l := Paired.mapP h fun a p ⟨b, h1, h2⟩ => ⟨b, by rw [upd_ne (fun z => hn _ (z ▸ h1))]; exact h1, by rw [upd_ne (fun z => hn _ (z ▸ h2))]; exact h2⟩
end
section
variable {J : Rws} {m : Nat}
theorem stp_row (w : WFB m J) {r : Nat} (h : r < J.length) : (List.range m).map (stp J r) = row J r := by
  refine List.ext_getElem? fun i => ?_
  rw [List.getElem?_map]
  by_cases hi : i < m
  · rw [List.getElem?_range hi, w.stp_at h hi] <;> rfl
  · rw [List.getElem?_eq_none (by rw [List.length_range]; omega), List.getElem?_eq_none (by rw [w.row_len h]; omega)] <;> rfl
theorem gW_lt (w : WFB m J) (k : Nat) : ∀ p ∈ gW m (stp J) 0 k, p.1 < J.length := fun p hp => by
  have h : p.1 ∈ gAt (fun x => (List.range m).map (stp J x)) 0 k := by
    rw [← gW_map k]
    exact List.mem_map_of_mem hp
  exact g_inv (P := fun x => x < J.length) w.pos (fun x hx y hy => by
    obtain ⟨a, ha, rfl⟩ := List.mem_map.mp hy
    exact w.stp_lt hx (List.mem_range.mp ha)) k _ h
theorem gW_nd (k : Nat) : ((gW m (stp J) 0 k).map Prod.fst).Nodup := by
  rw [gW_map k]
  exact g_nd k
theorem gW_le (w : WFB m J) (k : Nat) : (gW m (stp J) 0 k).length ≤ J.length := by
  have h := nodup_le (gW_nd (m := m) (J := J) k) (n := J.length) fun x hx => by
    obtain ⟨p, hp, rfl⟩ := List.mem_map.mp hx
    exact gW_lt w k p hp
  rw [List.length_map] at h
  exact h
theorem aW_lt (w : WFB m J) {k : Nat} {x : Nat} {v : List Nat} (hx : x < J.length) : ∀ a, a ≤ m → ∀ p ∈ addsW (stp J) x v (gW m (stp J) 0 k) a, p.1 < J.length
  | 0, _, p, hp => gW_lt w k p hp
  | a + 1, ha, p, hp => by
    rw [addsW_succ] at hp
    unfold addW at hp
    split at hp
    · exact aW_lt w hx a (by omega) p hp
    · rcases List.mem_append.mp hp with hp | hp
      · exact aW_lt w hx a (by omega) p hp
      · rw [List.mem_singleton.mp hp]
        exact w.stp_lt hx (by omega)
theorem aW_le (w : WFB m J) {k : Nat} {x : Nat} {v : List Nat} (hx : x < J.length) {a : Nat} (ha : a ≤ m) : (addsW (stp J) x v (gW m (stp J) 0 k) a).length ≤ J.length := by
  have h := nodup_le (l := (addsW (stp J) x v (gW m (stp J) 0 k) a).map Prod.fst) (n := J.length) (by rw [addsW_map]; exact nd_addsN (gW_nd k)) fun y hy => by
    obtain ⟨p, hp, rfl⟩ := List.mem_map.mp hy
    exact aW_lt w hx a ha p hp
  rw [List.length_map] at h
  exact h
/-- the word of a place is no longer than its place -/
theorem gW_wl (hm : 0 < m) {k : Nat} (hq : ∀ q, q < k → q < (gW m (stp J) 0 q).length) {p : Nat × List Nat} (hp : (gW m (stp J) 0 k)[k]? = some p) : p.2.length ≤ k := (gW_ok hm k hq p hp).1.lg _ _ hp
end
end U
set_option maxHeartbeats 4000000
namespace X7
open PySem PySem.Spec PyProof.Rows L2
section
variable {P : Program} {w : World} {A : Around} {E : Value → Shared → Prop} {s : Shared}
/-- the heap with a new set -/
abbrev h0Set (w : World) (h : Heap) : Heap := h.push { cls := .type "set", dict := none, data := .set #[] 0 (.fresh 0 0 (!w.params.followText "set-order")) }
/-- set(l), with all that an order asks of it -/
theorem set_ofList {l : Addr} {items : Array Value} {ns : List Int} {Q : Value → Shared → Prop} (hh : A.handled = none) (hl : s.heap.IsList l items) (hit : IntsAre items.toList ns) (hb : ns.length + 1 < scanBound)
    (k : ∀ (h' : Heap) (tk c : Nat), SetR w h' s.heap.objs.size (fun j => decide (j ∈ ns)) c → c ≤ ns.length → (∀ b o, s.heap.get? b = some o → h'.get? b = some o) → Q (.ref s.heap.objs.size) { s with heap := h', toks := tk }) :
    wpAny (model P w) A (call (.type "set") [.ref l]) Q E s := by
  have hsz : items.size = ns.length := by
    have q := IntsAre.length hit
    rw [Array.length_toList] at q
    exact q
  have up : ∀ b o, s.heap.get? b = some o → (h0Set w s.heap).get? b = some o := fun b o e => Heap.get?_push_of_some _ e
  have at0 : (h0Set w s.heap).get? s.heap.objs.size = some { cls := .type "set", dict := none, data := .set #[] 0 (.fresh 0 0 (!w.params.followText "set-order")) } := Heap.get?_push_size _ rfl
  obtain ⟨c, tl, hmro⟩ := F.called_set.mro
  have f1 := F.called_set.made
  have f2 := F.called_set.sub
  have f3 := F.called_set.notType
  have f4 := F.called_set.canCreate
  have f5 := F.typeCall_set_1 (.ref l)
  refine wpAny_call (codeAny_of_tree (show wpAny _ _ (callAny (.type "set") _) _ _ _ from wpAny_pure ⟨Code.quiet_builtin _ (by decide +kernel), codeAny_builtin F.entry_type_call ?_⟩))
  rw [Around.under_plain (weight_type_call_type "set" [.ref l] []) rfl]
  repeat (any_goals (first | assumption | wp_step))
  refine codeAny_mono (code_set_led1 (.ref l) (E := E) (Q₁ := fun ob z => ob = .ref s.heap.objs.size ∧ z = { s with heap := h0Set w s.heap }) ⟨rfl, rfl⟩) fun r z hr => ?_
  match r, hr with
  | .error e, hr => exact hr
  | .ok (.ret ob), hr =>
    obtain ⟨rfl, rfl⟩ := hr
    have tS : Shared.TypeIs { s with heap := h0Set w s.heap } (.ref s.heap.objs.size) "set" := ⟨_, at0, rfl⟩
    have g1 := F.called_set.init.lookup
    have g2 := F.called_set.init.bind (.ref s.heap.objs.size)
    repeat (any_goals (first | assumption | wp_step))
    refine codeAny_mono (codeAny_call_builtin (R := wants (fun r z => r = .none ∧ ∃ h' tk n, z = { s with heap := h', toks := tk } ∧ SetR w h' s.heap.objs.size (fun j => decide (j ∈ ns)) n ∧ n ≤ ns.length ∧ ∀ b o, s.heap.get? b = some o → h'.get? b = some o) E) F.called_set.init.plain F.entry_set_init (check_set_init_1 tS ?_)) fun r2 z2 hz2 => ?_
    · have hl1 : (h0Set w s.heap).IsList l items := hl.push _
      obtain ⟨ol, hol, hcl, nl, hdl⟩ := id hl1
      obtain ⟨ocls, odict, odata, oslots⟩ := ol
      simp only at hcl hdl
      subst hcl
      subst hdl
      have u1 := F.sub_list_set
      have u2 := F.sub_list_frozenset
      have u3 : (Value.type "list" == Value.type "dict") = false := by decide
      unfold Builtin.«set.__init__» noKeywords Builtin.Frozenset.updateFrom
      generalize hPI : pyIter = PI
      wp_walk
      subst hPI
      refine wpAny_pyIter_list hl1 (wpAny_bind (wpAny_runValue ?_))
      have ll : l < s.heap.objs.size := by
        obtain ⟨o, e, _⟩ := hl
        exact Heap.lt_size e
      have s1 : (h0Set w s.heap).objs.size = s.heap.objs.size + 1 := Heap.size_push ..
      refine set_update_ints (Walks.list (by simp [hh]) (h0Set w s.heap).objs.size l (by rw [s1]; exact Nat.ne_of_lt (Nat.lt_succ_of_lt ll)) items).toS s.heap.objs.size (by
        rw [s1]
        simp only [List.mem_cons, List.not_mem_nil, or_false, not_or]
        exact ⟨Nat.ne_of_lt (Nat.lt_succ_self _), Nat.ne_of_gt ll⟩) ns hsz hb (fun i v hv => ?_) (items.size - 0) 0 _ rfl (Nat.zero_le _) ⟨⟨_, Heap.get?_push_size _ rfl, rfl, rfl⟩, hl1.push _⟩ ⟨0, Nat.le_refl _, setR_new_at (Heap.get?_push_of_some _ at0)⟩ fun z n mv hn hS => ?_
      · have hi : i < ns.length := by rw [← hsz]; exact (Array.getElem?_eq_some_iff.mp hv).1
        obtain ⟨t, e⟩ := IntsAre.int_at hit i v (by rw [Array.getElem?_toList]; exact hv)
        exact ⟨ns[i], t, List.getElem?_eq_getElem hi, by rw [e, List.getD_eq_getElem?_getD, List.getElem?_eq_getElem hi] <;> rfl⟩
      · obtain ⟨h', g2, d2, tk, o2⟩ := z
        have q1 : g2 = s.gens := mv.gens
        have q2 : d2 = s.drawn := mv.drawn
        have q3 : o2 = s.os := mv.os
        subst q1
        subst q2
        subst q3
        refine wpAny_pure (show wpAny _ _ (ret Value.none) _ _ _ from wpAny_pure ⟨rfl, h', tk, n, rfl, hS, by rw [← hsz]; exact hn, fun b o e => ?_⟩)
        have b0 : b < s.heap.objs.size := Heap.lt_size e
        refine mv.heap b o (fun z => ?_) (Heap.get?_push_of_some _ (up b o e))
        rw [s1] at z
        simp only [List.mem_cons, List.not_mem_nil, or_false] at z
        rcases z with e2 | e2
        · exact Nat.ne_of_lt b0 e2
        · exact Nat.ne_of_lt (Nat.lt_succ_of_lt b0) e2
    · match r2, hz2 with
      | .error e, hz2 => exact hz2
      | .ok (.ret v), hz2 =>
        obtain ⟨rfl, h', tk, n, rfl, hS, hn, hk⟩ := hz2
        repeat (any_goals (first | assumption | wp_step))
        exact k _ _ _ hS hn hk
      | .ok (.next), hz2 => exact hz2.elim
  | .ok (.next), hr => exact hr.elim
end
end X7
set_option maxHeartbeats 4000000
namespace X7
open PySem PySem.Spec PyProof.Rows L2
/-- sorted(set(e)), e a list of whole numbers, fewer than 64 of them apart -/
def tSortSet (K : PySem.W.Frag) (ta : TE) : TE := fun σ H Q => ta σ H fun x H1 => ∃ (l : Addr) (ns : List Int), x = .ref l ∧ SqL K H1 l (ns.map V.int) ∧ ns.length ≤ 4000 ∧ (∀ us : List Int, us.Nodup → (∀ k ∈ us, k ∈ ns) → us.length < 64) ∧
  ∀ (ks : List Int) (p : Addr), ks.Pairwise (· < ·) → (∀ k, k ∈ ks ↔ k ∈ ns) → H1 p = none → Q (.ref p) (upd H1 p (.lst (ks.map V.int)))
theorem setR_n {w : World} {h : Heap} {a : Addr} {S : Int → Bool} {n : Nat} (R : SetR w h a S n) : ∃ us : List Int, us.Nodup ∧ us.length = n ∧ ∀ k, k ∈ us ↔ S k = true := by
  obtain ⟨o, es, ep, t, _, _, _, _, nd, hm, _, _, hn, _⟩ := R
  exact ⟨_, nd, by rw [List.length_map, Array.length_toList]; exact hn, fun k => (hm k).symm⟩
theorem sortSetK {X : Cx} (K : PySem.W.Frag) (hK : X.K = K) {a : Expr} {ta : TE} {p p2 q pos : Pos} (hg : Gl X "sorted") (hm : X.mg "sorted" = none) (hg2 : Gl X "set") (hm2 : X.mg "set" = none) (ha : PE X a ta) (hc : X.calm = true := by rfl)
    (na : starEach [a] X.env = (false, eval a X.env) :: starEach [] X.env := by rfl) : PE X (.Call (.Name "sorted" p) [.Call (.Name "set" p2) [a] [] q] [] pos) (tSortSet K ta) := by
  subst hK
  refine ⟨fun pins s σ H Q I h => ?_⟩
  refine Call_ (ld_blt I hg hm (by first | rfl | kernel_rfl | decide +kernel) ?_)
  refine PyProof.Rows.callWith_builtin1 (PyProof.Rows.args_cons ?_ rfl) rfl rfl
  refine Call_ (ld_blt I hg2 hm2 boot_set ?_)
  refine PyProof.Rows.callWith_type1 (PyProof.Rows.args_cons (thn (ha.run pins s σ H _ I h) fun v s1 ⟨x, H1, I1, r1, q1⟩ => PyProof.Rows.args_nil ?_) na) na rfl
  obtain ⟨l, ns, rfl, hq, hl, h64, q1⟩ := q1
  cases r1
  obtain ⟨its, r, pl, hz⟩ := I1.list hq
  refine set_ofList (I1.ok.hd hc) pl.isList (by simpa using RZ.intsAre_vals r) (by unfold scanBound; omega) fun h' tk n hS hn hk => ?_
  refine PyProof.Rows.args_nil ?_
  have I2 : Inv X pins σ H1 { s1 with heap := h', toks := tk } := I1.kept hk
  obtain ⟨us, und, unl, um⟩ := setR_n hS
  have hS2 : SetR X.w ({ s1 with heap := h', toks := tk } : Shared).heap s1.heap.objs.size (fun j => decide (j ∈ ns)) n := hS
  have hn64 : n < 64 := by
    rw [← unl]
    exact h64 us und fun k hk => decide_eq_true_iff.mp ((um k).mp hk)
  generalize ({ s1 with heap := h', toks := tk } : Shared) = s2 at I2 hS2 ⊢
  refine sorted_set (s := s2) hS2 (I2.ok.hd hc) hn64 fun s' p out c ks kk g o hp hgp hi hs hmm hln => ?_
  have hks : (ks.map V.int).length ≤ sizeLine := by rw [List.length_map, hln, sizeLine_eq]; omega
  have hpn : H1 p = none := I2.hok.fresh hp
  have J : Inv X pins σ (upd H1 p (.lst (ks.map V.int))) { s2 with heap := s'.heap, gens := s'.gens, drawn := s'.drawn, toks := s'.toks } :=
    (I2.call (ch := []) (Un.laid kk hp hpn) (I2.hok.laid kk hp ⟨hks, out.toList, c, vals_of_ints hi, hgp⟩) (by rw [g]; exact I2.bare) (fun _ z => nomatch z))
  have e : s' = { s2 with heap := s'.heap, gens := s'.gens, drawn := s'.drawn, toks := s'.toks } := by
    cases s'
    cases s2
    cases o
    rfl
  rw [e]
  exact ⟨.ref p, _, J, rfl, q1 ks p hs (fun k => (hmm k).trans decide_eq_true_iff) hpn⟩
theorem i_sortSet {K : PySem.W.Frag} {ta : TE} {σ : L2.St} {H : Hp} {Q : VK} (q : ta σ H fun x H1 => ∃ (l : Addr) (ns : List Int), x = .ref l ∧ SqL K H1 l (ns.map V.int) ∧ ns.length ≤ 4000 ∧ (∀ us : List Int, us.Nodup → (∀ k ∈ us, k ∈ ns) → us.length < 64) ∧
  ∀ (ks : List Int) (p : Addr), ks.Pairwise (· < ·) → (∀ k, k ∈ ks ↔ k ∈ ns) → H1 p = none → Q (.ref p) (upd H1 p (.lst (ks.map V.int)))) : tSortSet K ta σ H Q := q
end X7
namespace U
open PySem PySem.Spec PyProof.Rows L2
def DcW (J : L2.It) (g : TG) (tt : TT) (tk tv : TE) (vs : List Nat) (σ : L2.St) (H1 : Hp) (D : Addr) (Qd : Hp → Prop) : Prop := ∃ W : Nat → Nat → Hp → Prop, (∃ m, W 0 m (upd H1 D (.dK []))) ∧ ∀ i m H, W i m H →
  (J.stop i H ∧ Qd H) ∨ (J.go i H ∧ ∃ Nx : Hp → Prop, (∀ H', Nx H' → ∃ m', m' < m ∧ W (i + 1) m' H') ∧ ∀ x H', J.yld i H x H' → g x (wipe σ vs) H' fun σ2 H2 => wipe σ2 vs = wipe σ vs ∧ tt σ2 H2 fun b H3 =>
    if b = true then tk σ2 H3 fun y H4 => tv σ2 H4 fun z H5 => ∃ kvs k, y = kV k ∧ H5 D = some (.dK kvs) ∧ kvs.length < sizeLine ∧ Nx (upd H5 D (.dK (putK kvs k z))) else Nx H3)
def In2W (J1 : L2.It) (g1 : TG) (tt1 : TT) (te : TE) (vs1 : List Nat) (σ2 : L2.St) (H4 : Hp) (D : Addr) (Nx : Hp → Prop) : Prop := ∃ W1 : Nat → Nat → Hp → Prop, (∃ m, W1 0 m H4) ∧ ∀ j k H, W1 j k H →
  (J1.stop j H ∧ Nx H) ∨ (J1.go j H ∧ ∃ Nx1 : Hp → Prop, (∀ H', Nx1 H' → ∃ k', k' < k ∧ W1 (j + 1) k' H') ∧ ∀ x H', J1.yld j H x H' → g1 x (wipe σ2 vs1) H' fun σ3 H5 => wipe σ3 vs1 = wipe σ2 vs1 ∧ tt1 σ3 H5 fun b H6 =>
    if b = true then te σ3 H6 fun y H7 => ∃ acc, H7 D = some (.lst acc) ∧ acc.length < sizeLine ∧ Nx1 (upd H7 D (.lst (acc ++ [y]))) else Nx1 H6)
def Lc2W (J : L2.It) (g : TG) (tt : TT) (wi1 : TI) (g1 : TG) (tt1 : TT) (te : TE) (vs vs1 : List Nat) (σ : L2.St) (H1 : Hp) (D : Addr) (Qd : Hp → Prop) : Prop := ∃ W : Nat → Nat → Hp → Prop, (∃ m, W 0 m (upd H1 D (.lst []))) ∧ ∀ i m H, W i m H →
  (J.stop i H ∧ Qd H) ∨ (J.go i H ∧ ∃ Nx : Hp → Prop, (∀ H', Nx H' → ∃ m', m' < m ∧ W (i + 1) m' H') ∧ ∀ x H', J.yld i H x H' → g x (wipe σ vs) H' fun σ2 H2 => wipe σ2 vs = wipe σ vs ∧ tt σ2 H2 fun b H3 =>
    if b = true then wi1 σ2 H3 fun J1 H4 => In2W J1 g1 tt1 te vs1 σ2 H4 D Nx else Nx H3)
section
variable {K : PySem.W.Frag} {H : Hp} {a : Addr} {t : Bool} {xs : List V} {σ : L2.St} {g g1 : TG} {tt tt1 : TT} {te tk tv : TE} {wi wi1 : TI} {vs vs1 : List Nat} {Q : VK}
theorem i_dc (q : wi σ H fun J H1 => ∀ D, H1 D = none → DcW J g tt tk tv vs σ H1 D (Q (.ref D))) : tDc wi g tt tk tv vs σ H Q := q
theorem i_lc2 (q : wi σ H fun J H1 => ∀ D, H1 D = none → Lc2W J g tt wi1 g1 tt1 te vs vs1 σ H1 D (Q (.ref D))) : tLc2 wi g tt wi1 g1 tt1 te vs vs1 σ H Q := q
theorem dc_it {J : L2.It} {n : Nat} {G : Hp → Prop} {D : Addr} {Qd : Hp → Prop} (w : Walk J n G (YAt xs)) (hn : n = xs.length) (Pv : Nat → Hp → Prop) (h0 : Pv 0 (upd H D (.dK []))) (hG : ∀ i H, i ≤ n → Pv i H → G H)
    (hs : ∀ i x H, xs[i]? = some x → Pv i H → g x (wipe σ vs) H fun σ2 H2 => wipe σ2 vs = wipe σ vs ∧ tt σ2 H2 fun b H3 =>
      if b = true then tk σ2 H3 fun y H4 => tv σ2 H4 fun z H5 => ∃ kvs k, y = kV k ∧ H5 D = some (.dK kvs) ∧ kvs.length < sizeLine ∧ Pv (i + 1) (upd H5 D (.dK (putK kvs k z))) else Pv (i + 1) H3) (hd : ∀ H, Pv n H → Qd H) : DcW J g tt tk tv vs σ H D Qd := by
  refine ⟨fun i m H => m = n - i ∧ i ≤ n ∧ Pv i H, ⟨n, by simp, Nat.zero_le _, h0⟩, ?_⟩
  rintro i m H ⟨rfl, hi, p⟩
  have q := hG i H hi p
  by_cases hlt : i < n
  · refine .inr ⟨w.goes i H hlt q, Pv (i + 1), fun H' p' => ⟨n - (i + 1), by omega, rfl, hlt, p'⟩, fun x H' y => ?_⟩
    obtain ⟨e, hx⟩ := w.yields i H x H' hlt q y
    subst e
    exact hs i x _ hx p
  · have e : i = n := by omega
    subst e
    exact .inl ⟨w.stops H q, hd H p⟩
theorem in2_it {J : L2.It} {n : Nat} {G : Hp → Prop} {D : Addr} {Nx : Hp → Prop} (w : Walk J n G (YAt xs)) (Pv : Nat → Hp → Prop) (h0 : Pv 0 H) (hG : ∀ i H, i ≤ n → Pv i H → G H)
    (hs : ∀ i x H, xs[i]? = some x → Pv i H → g1 x (wipe σ vs1) H fun σ3 H5 => wipe σ3 vs1 = wipe σ vs1 ∧ tt1 σ3 H5 fun b H6 =>
      if b = true then te σ3 H6 fun y H7 => ∃ acc, H7 D = some (.lst acc) ∧ acc.length < sizeLine ∧ Pv (i + 1) (upd H7 D (.lst (acc ++ [y]))) else Pv (i + 1) H6) (hd : ∀ H, Pv n H → Nx H) : In2W J g1 tt1 te vs1 σ H D Nx := by
  refine ⟨fun i m H => m = n - i ∧ i ≤ n ∧ Pv i H, ⟨n, by simp, Nat.zero_le _, h0⟩, ?_⟩
  rintro i m H ⟨rfl, hi, p⟩
  have q := hG i H hi p
  by_cases hlt : i < n
  · refine .inr ⟨w.goes i H hlt q, Pv (i + 1), fun H' p' => ⟨n - (i + 1), by omega, rfl, hlt, p'⟩, fun x H' y => ?_⟩
    obtain ⟨e, hx⟩ := w.yields i H x H' hlt q y
    subst e
    exact hs i x _ hx p
  · have e : i = n := by omega
    subst e
    exact .inl ⟨w.stops H q, hd H p⟩
theorem lc2_it {J : L2.It} {n : Nat} {G : Hp → Prop} {D : Addr} {Qd : Hp → Prop} (w : Walk J n G (YAt xs)) (Pv : Nat → Hp → Prop) (h0 : Pv 0 (upd H D (.lst []))) (hG : ∀ i H, i ≤ n → Pv i H → G H)
    (hs : ∀ i x H, xs[i]? = some x → Pv i H → g x (wipe σ vs) H fun σ2 H2 => wipe σ2 vs = wipe σ vs ∧ tt σ2 H2 fun b H3 =>
      if b = true then wi1 σ2 H3 fun J1 H4 => In2W J1 g1 tt1 te vs1 σ2 H4 D (Pv (i + 1)) else Pv (i + 1) H3) (hd : ∀ H, Pv n H → Qd H) : Lc2W J g tt wi1 g1 tt1 te vs vs1 σ H D Qd := by
  refine ⟨fun i m H => m = n - i ∧ i ≤ n ∧ Pv i H, ⟨n, by simp, Nat.zero_le _, h0⟩, ?_⟩
  rintro i m H ⟨rfl, hi, p⟩
  have q := hG i H hi p
  by_cases hlt : i < n
  · refine .inr ⟨w.goes i H hlt q, Pv (i + 1), fun H' p' => ⟨n - (i + 1), by omega, rfl, hlt, p'⟩, fun x H' y => ?_⟩
    obtain ⟨e, hx⟩ := w.yields i H x H' hlt q y
    subst e
    exact hs i x _ hx p
  · have e : i = n := by omega
    subst e
    exact .inl ⟨w.stops H q, hd H p⟩
/-- {k: v for .. in l if ..}, l a list or a tuple that stays -/
theorem seq_dc {Qd : Addr → Hp → Prop} (h : H a = some (sq t xs)) (r : ∀ D, H D = none → ∃ Pv : Nat → Hp → Prop, Pv 0 (upd H D (.dK [])) ∧ (∀ i H, i ≤ xs.length → Pv i H → H a = some (sq t xs)) ∧
    (∀ i x H, xs[i]? = some x → Pv i H → g x (wipe σ vs) H fun σ2 H2 => wipe σ2 vs = wipe σ vs ∧ tt σ2 H2 fun b H3 =>
      if b = true then tk σ2 H3 fun y H4 => tv σ2 H4 fun z H5 => ∃ kvs k, y = kV k ∧ H5 D = some (.dK kvs) ∧ kvs.length < sizeLine ∧ Pv (i + 1) (upd H5 D (.dK (putK kvs k z))) else Pv (i + 1) H3) ∧
    ∀ H, Pv xs.length H → Qd D H) : ISeq K (fun J H1 => ∀ D, H1 D = none → DcW J g tt tk tv vs σ H1 D (Qd D)) (.ref a) H := by
  refine ⟨a, rfl, ?_⟩
  cases t with
  | false =>
    refine .inl ⟨⟨xs, SqL.of h⟩, fun D hD => ?_⟩
    obtain ⟨Pv, h0, hl, hs, hd⟩ := r D hD
    exact dc_it walk_list rfl Pv h0 (fun i H hi p => SqL.of (hl i H hi p)) hs hd
  | true =>
    refine .inr ⟨⟨xs, SqT.of h⟩, fun D hD => ?_⟩
    obtain ⟨Pv, h0, hl, hs, hd⟩ := r D hD
    exact dc_it walk_tup rfl Pv h0 (fun i H hi p => SqT.of (hl i H hi p)) hs hd
theorem seq_in2 {D : Addr} {Nx : Hp → Prop} (h : H a = some (sq t xs)) (Pv : Nat → Hp → Prop) (h0 : Pv 0 H) (hl : ∀ i H, i ≤ xs.length → Pv i H → H a = some (sq t xs))
    (hs : ∀ i x H, xs[i]? = some x → Pv i H → g1 x (wipe σ vs1) H fun σ3 H5 => wipe σ3 vs1 = wipe σ vs1 ∧ tt1 σ3 H5 fun b H6 =>
      if b = true then te σ3 H6 fun y H7 => ∃ acc, H7 D = some (.lst acc) ∧ acc.length < sizeLine ∧ Pv (i + 1) (upd H7 D (.lst (acc ++ [y]))) else Pv (i + 1) H6) (hd : ∀ H, Pv xs.length H → Nx H) :
    ISeq K (fun J1 H4 => In2W J1 g1 tt1 te vs1 σ H4 D Nx) (.ref a) H := by
  refine ⟨a, rfl, ?_⟩
  cases t with
  | false => exact .inl ⟨⟨xs, SqL.of h⟩, in2_it walk_list Pv h0 (fun i H hi p => SqL.of (hl i H hi p)) hs hd⟩
  | true => exact .inr ⟨⟨xs, SqT.of h⟩, in2_it walk_tup Pv h0 (fun i H hi p => SqT.of (hl i H hi p)) hs hd⟩
theorem seq_lc2 {Qd : Addr → Hp → Prop} (h : H a = some (sq t xs)) (r : ∀ D, H D = none → ∃ Pv : Nat → Hp → Prop, Pv 0 (upd H D (.lst [])) ∧ (∀ i H, i ≤ xs.length → Pv i H → H a = some (sq t xs)) ∧
    (∀ i x H, xs[i]? = some x → Pv i H → g x (wipe σ vs) H fun σ2 H2 => wipe σ2 vs = wipe σ vs ∧ tt σ2 H2 fun b H3 =>
      if b = true then wi1 σ2 H3 fun J1 H4 => In2W J1 g1 tt1 te vs1 σ2 H4 D (Pv (i + 1)) else Pv (i + 1) H3) ∧
    ∀ H, Pv xs.length H → Qd D H) : ISeq K (fun J H1 => ∀ D, H1 D = none → Lc2W J g tt wi1 g1 tt1 te vs vs1 σ H1 D (Qd D)) (.ref a) H := by
  refine ⟨a, rfl, ?_⟩
  cases t with
  | false =>
    refine .inl ⟨⟨xs, SqL.of h⟩, fun D hD => ?_⟩
    obtain ⟨Pv, h0, hl, hs, hd⟩ := r D hD
    exact lc2_it walk_list Pv h0 (fun i H hi p => SqL.of (hl i H hi p)) hs hd
  | true =>
    refine .inr ⟨⟨xs, SqT.of h⟩, fun D hD => ?_⟩
    obtain ⟨Pv, h0, hl, hs, hd⟩ := r D hD
    exact lc2_it walk_tup Pv h0 (fun i H hi p => SqT.of (hl i H hi p)) hs hd
end
end U
namespace U
open PySem PySem.Spec PyProof.Rows L2
theorem filt1 {α : Type} (f : α → Bool) (x : α) : [x].filter f = if f x = true then [x] else [] := by rw [List.filter_cons, List.filter_nil]
section
variable {m : Nat} {rs : Rws} {gd o : List Nat}
/-- those that are put in at one turn -/
def moreU (rs : Rws) (o us : List Nat) : List Nat := o.filter fun r => !decide (r ∈ us) && (row rs r).any fun t => decide (t ∈ us)
def useU (rs : Rws) (gd o : List Nat) : Nat → List Nat
  | 0 => o.filter fun r => decide (r ∈ gd)
  | k + 1 => useU rs gd o k ++ moreU rs o (useU rs gd o k)
/-- a good room is reached from r -/
def Use (m : Nat) (rs : Rws) (gd : List Nat) (r : Nat) : Prop := ∃ w, Ok m w ∧ run rs r w ∈ gd
theorem mem_moreU {us : List Nat} {r : Nat} : r ∈ moreU rs o us ↔ r ∈ o ∧ r ∉ us ∧ ∃ t ∈ row rs r, t ∈ us := by
  simp [moreU, List.mem_filter, List.any_eq_true]
theorem use_o : ∀ k, ∀ r ∈ useU rs gd o k, r ∈ o
  | 0, r, h => (List.mem_filter.mp h).1
  | k + 1, r, h => by
    rcases List.mem_append.mp h with h | h
    · exact use_o k r h
    · exact (mem_moreU.mp h).1
theorem use_sound (w : WFB m rs) (ho : ∀ r ∈ o, r < rs.length) : ∀ k, ∀ r ∈ useU rs gd o k, Use m rs gd r
  | 0, r, h => ⟨[], fun a h => by simp at h, decide_eq_true_iff.mp (List.mem_filter.mp h).2⟩
  | k + 1, r, h => by
    rcases List.mem_append.mp h with h | h
    · exact use_sound w ho k r h
    · obtain ⟨hr, _, t, ht, hu⟩ := mem_moreU.mp h
      obtain ⟨v, hv, hg⟩ := use_sound w ho k t hu
      obtain ⟨a, ha⟩ := List.mem_iff_getElem?.mp ht
      have hrl := ho r hr
      have ham : a < m := by
        have := (List.getElem?_eq_some_iff.mp ha).1
        rw [w.row_len hrl] at this
        exact this
      have e := w.stp_at hrl ham
      rw [ha] at e
      have e2 : t = stp rs r a := Option.some.inj e
      refine ⟨a :: v, fun b hb => ?_, ?_⟩
      · rcases List.mem_cons.mp hb with rfl | hb
        · exact ham
        · exact hv b hb
      · show run rs (stp rs r a) v ∈ gd
        rw [← e2]
        exact hg
theorem use_nd (ho : o.Nodup) : ∀ k, (useU rs gd o k).Nodup
  | 0 => ho.sublist List.filter_sublist
  | k + 1 => by
    show (useU rs gd o k ++ moreU rs o (useU rs gd o k)).Nodup
    rw [List.nodup_append]
    refine ⟨use_nd ho k, ho.sublist List.filter_sublist, fun x hx y hy e => ?_⟩
    subst e
    exact (mem_moreU.mp hy).2.1 hx
theorem use_full (w : WFB m rs) (ho : ∀ r ∈ o, r < rs.length) (hc : ∀ r ∈ o, ∀ a, a < m → stp rs r a ∈ o) {k : Nat} (hm : moreU rs o (useU rs gd o k) = []) : ∀ (v : List Nat) (r : Nat), r ∈ o → Ok m v → run rs r v ∈ gd → r ∈ useU rs gd o k
  | [], r, hr, _, hg => by
    have h0 : r ∈ useU rs gd o 0 := List.mem_filter.mpr ⟨hr, decide_eq_true_iff.mpr hg⟩
    have : ∀ j, r ∈ useU rs gd o j := fun j => by
      induction j with
      | zero => exact h0
      | succ j ih => exact List.mem_append_left _ ih
    exact this k
  | a :: v, r, hr, hv, hg => by
    have ha := hv a (List.mem_cons_self ..)
    have h1 := use_full w ho hc hm v (stp rs r a) (hc r hr a ha) (fun b hb => hv b (List.mem_cons_of_mem _ hb)) hg
    apply Classical.byContradiction
    intro hn
    have : r ∈ moreU rs o (useU rs gd o k) := mem_moreU.mpr ⟨hr, hn, stp rs r a, List.mem_of_getElem? (w.stp_at (ho r hr) ha), h1⟩
    rw [hm] at this
    cases this
theorem use_len (k : Nat) (h : ∀ j, j < k → moreU rs o (useU rs gd o j) ≠ []) : k ≤ (useU rs gd o k).length := by
  induction k with
  | zero => exact Nat.zero_le _
  | succ k ih =>
    have h1 := ih fun j hj => h j (Nat.lt_succ_of_lt hj)
    have h2 := List.length_pos_iff.mpr (h k (Nat.lt_succ_self k))
    show k + 1 ≤ (useU rs gd o k ++ moreU rs o (useU rs gd o k)).length
    rw [List.length_append]
    omega
end
end U
namespace U
open PySem PySem.Spec PyProof.Rows L2
section
variable {m : Nat} {rs : Rws} {gd : List Nat}
/-- a longest text: none at all (-1), a length below the number of rooms, or ever longer ones -/
def LongR (m : Nat) (rs : Rws) (gd : List Nat) : Option Int → Prop
  | none => ∃ w, Ok m w ∧ run rs 0 w ∈ gd ∧ rs.length ≤ w.length
  | some L => -1 ≤ L ∧ L < rs.length ∧ (∀ w, Ok m w → run rs 0 w ∈ gd → (w.length : Int) ≤ L) ∧ (L = -1 ∨ ∃ w, Ok m w ∧ run rs 0 w ∈ gd ∧ (w.length : Int) = L)
theorem LongR.uniq {r r' : Option Int} (h : LongR m rs gd r) (h' : LongR m rs gd r') : r = r' := by
  cases r with
  | none =>
    cases r' with
    | none => rfl
    | some L =>
      obtain ⟨w, ow, pw, hl⟩ := h
      have := h'.2.2.1 w ow pw
      have := h'.2.1
      omega
  | some L =>
    cases r' with
    | none =>
      obtain ⟨w, ow, pw, hl⟩ := h'
      have := h.2.2.1 w ow pw
      have := h.2.1
      omega
    | some L' =>
      have e1 : L ≤ L' := by
        rcases h.2.2.2 with z | ⟨w, ow, pw, hl⟩
        · have := h'.1; omega
        · have := h'.2.2.1 w ow pw; omega
      have e2 : L' ≤ L := by
        rcases h'.2.2.2 with z | ⟨w, ow, pw, hl⟩
        · have := h.1; omega
        · have := h.2.2.1 w ow pw; omega
      rw [show L = L' by omega]
theorem Ok.take {w : List Nat} (h : Ok m w) (k : Nat) : Ok m (w.take k) := fun a ha => h a (List.mem_of_mem_take ha)
theorem Ok.drop {w : List Nat} (h : Ok m w) (k : Nat) : Ok m (w.drop k) := fun a ha => h a (List.mem_of_mem_drop ha)
theorem Ok.append {u v : List Nat} (h : Ok m u) (h' : Ok m v) : Ok m (u ++ v) := fun a ha => (List.mem_append.mp ha).elim (h a) (h' a)
theorem not_nodup {f : Nat → Nat} {n : Nat} (h : ∀ k, k < n + 1 → f k < n) : ∃ i j, i < j ∧ j ≤ n ∧ f i = f j := by
  apply Classical.byContradiction
  intro hn
  have nd : ((List.range (n + 1)).map f).Nodup := by
    rw [List.nodup_iff_pairwise_ne, List.pairwise_map]
    refine List.Pairwise.imp_of_mem ?_ List.pairwise_lt_range
    intro i j hi hj hij e
    exact hn ⟨i, j, hij, by have := List.mem_range.mp hj; omega, e⟩
  have := nodup_le nd (n := n) fun x hx => by
    obtain ⟨k, hk, rfl⟩ := List.mem_map.mp hx
    exact h k (List.mem_range.mp hk)
  rw [List.length_map, List.length_range] at this
  omega
/-- a long text is cut down to one of a length below twice the number of rooms -/
theorem pump (w : WFB m rs) : ∀ (k : Nat) (u : List Nat), u.length = k → Ok m u → run rs 0 u ∈ gd → rs.length ≤ u.length → ∃ v, Ok m v ∧ run rs 0 v ∈ gd ∧ rs.length ≤ v.length ∧ v.length < 2 * rs.length := by
  intro k
  induction k using Nat.strongRecOn with
  | ind k ih =>
  intro u hk ou pu hl
  by_cases hlt : u.length < 2 * rs.length
  · exact ⟨u, ou, pu, hl, hlt⟩
  · obtain ⟨i, j, hij, hj, e⟩ := not_nodup (f := fun k => run rs 0 (u.take k)) (n := rs.length) fun k _ => w.run_lt w.pos (ou.take k)
    have e : run rs 0 (u.take i) = run rs 0 (u.take j) := e
    have hlen : (u.take i ++ u.drop j).length = u.length - (j - i) := by
      rw [List.length_append, List.length_take, List.length_drop]
      omega
    refine ih (u.take i ++ u.drop j).length (by rw [hlen]; omega) _ rfl ((ou.take i).append (ou.drop j)) ?_ (by rw [hlen]; omega)
    rw [run_app, e, ← run_app, List.take_append_drop]
    exact pu
/-- the useful rooms to which texts of l letters lead -/
def LvL (m : Nat) (rs : Rws) (gd : List Nat) (l : Nat) (lv : List Nat) : Prop := lv.Pairwise (· < ·) ∧ ∀ r, r ∈ lv ↔ ∃ w, Ok m w ∧ w.length = l ∧ run rs 0 w = r ∧ Use m rs gd r
/-- the greatest length of a text so far, of fewer than l letters -/
def LgS (m : Nat) (rs : Rws) (gd : List Nat) (l : Nat) (L : Int) : Prop := -1 ≤ L ∧ L < l ∧ (∀ w, Ok m w → run rs 0 w ∈ gd → w.length < l → (w.length : Int) ≤ L) ∧ (L = -1 ∨ ∃ w, Ok m w ∧ run rs 0 w ∈ gd ∧ (w.length : Int) = L)
theorem Use.of_good {r : Nat} (h : r ∈ gd) : Use m rs gd r := ⟨[], fun a h => by simp at h, h⟩
theorem lvl0_t (h : Use m rs gd 0) : LvL m rs gd 0 [0] := by
  refine ⟨by simp, fun r => ⟨fun hr => ?_, fun ⟨w, _, hl, hr, _⟩ => ?_⟩⟩
  · rw [List.mem_singleton.mp hr]
    exact ⟨[], fun a h => by simp at h, rfl, rfl, h⟩
  · rw [List.length_eq_zero_iff.mp hl] at hr
    rw [← hr]
    exact List.mem_singleton.mpr rfl
theorem lvl0_f (h : ¬ Use m rs gd 0) : LvL m rs gd 0 [] := by
  refine ⟨.nil, fun r => ⟨fun hr => (by cases hr), fun ⟨w, _, hl, hr, hu⟩ => ?_⟩⟩
  rw [List.length_eq_zero_iff.mp hl] at hr
  have hr : 0 = r := hr
  rw [← hr] at hu
  exact absurd hu h
theorem run_snoc2 (w : List Nat) (a : Nat) : run rs 0 (w ++ [a]) = stp rs (run rs 0 w) a := run_snoc rs 0 w a
theorem lvl_succ (w : WFB m rs) {us : List Nat} (hus : ∀ u, Ok m u → (run rs 0 u ∈ us ↔ Use m rs gd (run rs 0 u))) {l : Nat} {lv ks : List Nat} (h : LvL m rs gd l lv) (hp : ks.Pairwise (· < ·)) (hk : ∀ t, t ∈ ks ↔ ∃ r ∈ lv, t ∈ row rs r ∧ t ∈ us) : LvL m rs gd (l + 1) ks := by
  refine ⟨hp, fun t => (hk t).trans ⟨fun ⟨r, hr, ht, hu⟩ => ?_, fun ⟨v, ov, hl, hr, hu⟩ => ?_⟩⟩
  · obtain ⟨v, ov, hl, rfl, _⟩ := (h.2 r).mp hr
    obtain ⟨a, ha⟩ := List.mem_iff_getElem?.mp ht
    have hrl := w.run_lt w.pos ov
    have ham : a < m := by
      have := (List.getElem?_eq_some_iff.mp ha).1
      rw [w.row_len hrl] at this
      exact this
    have e := w.stp_at hrl ham
    rw [ha] at e
    have e2 : t = stp rs (run rs 0 v) a := Option.some.inj e
    have e3 : run rs 0 (v ++ [a]) = t := by rw [run_snoc2, e2]
    exact ⟨v ++ [a], ov.snoc ham, by rw [List.length_append, hl] <;> rfl, e3, by rw [← e3] at hu ⊢; exact (hus _ (ov.snoc ham)).mp hu⟩
  · rcases snoc_cases v with rfl | ⟨u, a, rfl⟩
    · simp at hl
    · obtain ⟨ou, ha⟩ := ov.init
      have hrl := w.run_lt w.pos ou
      rw [run_snoc2] at hr
      refine ⟨run rs 0 u, (h.2 _).mpr ⟨u, ou, by simpa using hl, rfl, ?_⟩, ?_, ?_⟩
      · obtain ⟨x, ox, gx⟩ := hu
        refine ⟨a :: x, fun b hb => ?_, by show run rs (stp rs (run rs 0 u) a) x ∈ gd; rw [hr]; exact gx⟩
        rcases List.mem_cons.mp hb with rfl | hb
        · exact ha
        · exact ox b hb
      · rw [← hr]
        exact List.mem_of_getElem? (w.stp_at hrl ha)
      · have e3 : run rs 0 (u ++ [a]) = t := by rw [run_snoc2, hr]
        rw [← e3] at hu ⊢
        exact (hus _ ov).mpr hu
theorem lvl_lt (w : WFB m rs) {l : Nat} {lv : List Nat} (h : LvL m rs gd l lv) : ∀ r ∈ lv, r < rs.length := fun r hr => by
  obtain ⟨v, ov, _, rfl, _⟩ := (h.2 r).mp hr
  exact w.run_lt w.pos ov
theorem lvl_len (w : WFB m rs) {l : Nat} {lv : List Nat} (h : LvL m rs gd l lv) : lv.length ≤ rs.length := nodup_le (h.1.imp fun h => Nat.ne_of_lt h) (lvl_lt w h)
/-- no such room: all texts are shorter -/
theorem lvl_nil {l : Nat} (h : LvL m rs gd l []) {v : List Nat} (ov : Ok m v) (pv : run rs 0 v ∈ gd) : v.length < l := by
  rcases Nat.lt_or_ge v.length l with z | z
  · exact z
  · have : run rs 0 (v.take l) ∈ ([] : List Nat) := (h.2 _).mpr ⟨v.take l, ov.take l, by rw [List.length_take]; omega, rfl, v.drop l, ov.drop l, by rw [← run_app, List.take_append_drop]; exact pv⟩
    cases this
theorem lgs0 : LgS m rs gd 0 (-1) := ⟨by omega, by omega, fun w _ _ h => absurd h (Nat.not_lt_zero _), .inl rfl⟩
theorem lgs_hit {l : Nat} {lv : List Nat} {L : Int} (h : LvL m rs gd l lv) (s : LgS m rs gd l L) {r : Nat} (hr : r ∈ lv) (hg : r ∈ gd) : LgS m rs gd (l + 1) (l : Int) := by
  obtain ⟨v, ov, hl, rfl, _⟩ := (h.2 r).mp hr
  exact ⟨by omega, by omega, fun w _ _ hw => by omega, .inr ⟨v, ov, hg, by omega⟩⟩
theorem lgs_miss {l : Nat} {lv : List Nat} {L : Int} (h : LvL m rs gd l lv) (s : LgS m rs gd l L) (hn : ∀ r ∈ lv, r ∉ gd) : LgS m rs gd (l + 1) L := by
  obtain ⟨s1, s2, s3, s4⟩ := s
  refine ⟨s1, by omega, fun w ow pw hw => ?_, s4⟩
  by_cases e : w.length = l
  · exact absurd pw (hn _ ((h.2 _).mpr ⟨w, ow, e, rfl, .of_good pw⟩))
  · exact s3 w ow pw (by omega)
end
end U
namespace U
open PySem PySem.Spec PyProof.Rows L2
theorem ints_nat {ks : List Int} (h : ∀ k ∈ ks, 0 ≤ k) : ks.map V.int = (ks.map Int.toNat).map vn := by
  rw [List.map_map]
  refine List.map_congr_left fun k hk => ?_
  show V.int k = V.int ((k.toNat : Nat) : Int)
  rw [Int.toNat_of_nonneg (h k hk)]
theorem ints_nd {ks : List Int} (h : ∀ k ∈ ks, 0 ≤ k) (hn : ks.Nodup) : (ks.map Int.toNat).Nodup := by
  rw [List.nodup_iff_pairwise_ne, List.pairwise_map]
  refine List.Pairwise.imp_of_mem ?_ (List.nodup_iff_pairwise_ne.mp hn)
  intro a b ha hb hab e
  have := h a ha
  have := h b hb
  exact hab (by omega)
theorem ints_lt {ks : List Int} (h : ∀ k ∈ ks, 0 ≤ k) (hp : ks.Pairwise (· < ·)) : (ks.map Int.toNat).Pairwise (· < ·) := by
  rw [List.pairwise_map]
  refine List.Pairwise.imp_of_mem ?_ hp
  intro a b ha hb hab
  have := h a ha
  have := h b hb
  omega
theorem ints_le {ks : List Int} {n : Nat} (h : ∀ k ∈ ks, ∃ t : Nat, t < n ∧ k = (t : Int)) (hn : ks.Nodup) : ks.length ≤ n := by
  have h0 : ∀ k ∈ ks, 0 ≤ k := fun k hk => by obtain ⟨t, _, e⟩ := h k hk; omega
  have := nodup_le (ints_nd h0 hn) (n := n) fun x hx => by
    obtain ⟨k, hk, rfl⟩ := List.mem_map.mp hx
    obtain ⟨t, ht, e⟩ := h k hk
    omega
  rwa [List.length_map] at this
end U
namespace U
open PySem PySem.Spec PyProof.Rows L2
theorem sum_pos_iff {l : List Nat} : 0 < l.sum ↔ ∃ x ∈ l, 0 < x := by
  induction l with
  | nil => simp
  | cons a l ih =>
    rw [List.sum_cons]
    constructor
    · intro h
      by_cases ha : 0 < a
      · exact ⟨a, List.mem_cons_self .., ha⟩
      · obtain ⟨x, hx, h⟩ := ih.mp (by omega)
        exact ⟨x, List.mem_cons_of_mem _ hx, h⟩
    · rintro ⟨x, hx, h⟩
      rcases List.mem_cons.mp hx with rfl | hx
      · omega
      · have := ih.mpr ⟨x, hx, h⟩
        omega
section
variable {m : Nat} {rs : Rws} {gd : List Nat}
/-- how many words of l letters lead from r to a good room -/
def cw (rs : Rws) (gd : List Nat) : Nat → Nat → Nat
  | 0, r => if r ∈ gd then 1 else 0
  | l + 1, r => ((row rs r).map (cw rs gd l)).sum
theorem Ok.cons {a : Nat} {v : List Nat} (ha : a < m) (h : Ok m v) : Ok m (a :: v) := fun b hb => by
  rcases List.mem_cons.mp hb with rfl | hb
  · exact ha
  · exact h b hb
theorem Ok.hd {a : Nat} {v : List Nat} (h : Ok m (a :: v)) : a < m := h a (List.mem_cons_self ..)
theorem Ok.tl {a : Nat} {v : List Nat} (h : Ok m (a :: v)) : Ok m v := fun b hb => h b (List.mem_cons_of_mem _ hb)
theorem Ok.nil : Ok m [] := fun a h => by simp at h
theorem cw_pos (w : WFB m rs) : ∀ (l r : Nat), r < rs.length → (0 < cw rs gd l r ↔ ∃ v, Ok m v ∧ v.length = l ∧ run rs r v ∈ gd)
  | 0, r, hr => by
    constructor
    · intro h
      refine ⟨[], .nil, rfl, ?_⟩
      show r ∈ gd
      unfold cw at h
      split at h
      · assumption
      · omega
    · rintro ⟨v, _, hl, hg⟩
      rw [List.length_eq_zero_iff.mp hl] at hg
      have hg : r ∈ gd := hg
      unfold cw
      rw [if_pos hg]
      exact Nat.one_pos
  | l + 1, r, hr => by
    unfold cw
    rw [sum_pos_iff]
    constructor
    · rintro ⟨x, hx, h⟩
      obtain ⟨t, ht, rfl⟩ := List.mem_map.mp hx
      obtain ⟨a, ha⟩ := List.mem_iff_getElem?.mp ht
      have ham : a < m := by
        have := (List.getElem?_eq_some_iff.mp ha).1
        rw [w.row_len hr] at this
        exact this
      have e := w.stp_at hr ham
      rw [ha] at e
      have e2 : t = stp rs r a := Option.some.inj e
      subst e2
      obtain ⟨v, ov, hl, hg⟩ := (cw_pos w l _ (w.stp_lt hr ham)).mp h
      exact ⟨a :: v, ov.cons ham, by rw [List.length_cons, hl], hg⟩
    · rintro ⟨v, ov, hl, hg⟩
      cases v with
      | nil => cases hl
      | cons a v =>
        have ha := ov.hd
        exact ⟨_, List.mem_map_of_mem (List.mem_of_getElem? (w.stp_at hr ha)), (cw_pos w l _ (w.stp_lt hr ha)).mpr ⟨v, ov.tl, by simpa using hl, hg⟩⟩
def cwL (rs : Rws) (gd : List Nat) (l : Nat) : List Nat := (List.range rs.length).map (cw rs gd l)
theorem cwL_len (l : Nat) : (cwL rs gd l).length = rs.length := by rw [cwL, List.length_map, List.length_range]
theorem cwL_at {l r : Nat} (hr : r < rs.length) : (cwL rs gd l)[r]? = some (cw rs gd l r) := by rw [cwL, List.getElem?_map, List.getElem?_range hr] <;> rfl
theorem cwL_succ (l : Nat) : rs.map (fun rw' => (rw'.map (cw rs gd l)).sum) = cwL rs gd (l + 1) := by
  refine List.ext_getElem? fun i => ?_
  rw [List.getElem?_map]
  by_cases hi : i < rs.length
  · rw [cwL_at hi, row_at hi] <;> rfl
  · rw [List.getElem?_eq_none (by omega), List.getElem?_eq_none (by rw [cwL_len]; omega)] <;> rfl
/-- how many words as long as v that lead from r to a good room stand ahead of v -/
def bef (rs : Rws) (gd : List Nat) : Nat → List Nat → Nat
  | _, [] => 0
  | r, a :: v => (((row rs r).take a).map (cw rs gd v.length)).sum + bef rs gd (stp rs r a) v
def befP (rs : Rws) (gd : List Nat) : Nat → List Nat → Nat → Nat
  | _, [], _ => 0
  | r, a :: w, n => (((row rs r).take a).map (cw rs gd (w.length + n))).sum + befP rs gd (stp rs r a) w n
theorem bef_app : ∀ (w : List Nat) (r : Nat) (v : List Nat), bef rs gd r (w ++ v) = befP rs gd r w v.length + bef rs gd (run rs r w) v
  | [], r, v => by
    show bef rs gd r v = 0 + bef rs gd r v
    omega
  | a :: w, r, v => by
    show (((row rs r).take a).map (cw rs gd (w ++ v).length)).sum + bef rs gd (stp rs r a) (w ++ v) = (((row rs r).take a).map (cw rs gd (w.length + v.length))).sum + befP rs gd (stp rs r a) w v.length + bef rs gd (run rs (stp rs r a) w) v
    rw [bef_app w, List.length_append]
    omega
theorem befP_snoc : ∀ (w : List Nat) (r k n : Nat), befP rs gd r (w ++ [k]) n = befP rs gd r w (n + 1) + (((row rs (run rs r w)).take k).map (cw rs gd n)).sum
  | [], r, k, n => by
    show (((row rs r).take k).map (cw rs gd (0 + n))).sum + 0 = 0 + (((row rs r).take k).map (cw rs gd n)).sum
    rw [Nat.zero_add]
    omega
  | a :: w, r, k, n => by
    show (((row rs r).take a).map (cw rs gd ((w ++ [k]).length + n))).sum + befP rs gd (stp rs r a) (w ++ [k]) n = (((row rs r).take a).map (cw rs gd (w.length + (n + 1)))).sum + befP rs gd (stp rs r a) w (n + 1) + (((row rs (run rs (stp rs r a) w)).take k).map (cw rs gd n)).sum
    rw [befP_snoc w, List.length_append, show w.length + [k].length + n = w.length + (n + 1) by simp; omega]
    omega
theorem bef_P (r : Nat) (w : List Nat) : bef rs gd r w = befP rs gd r w 0 := by
  have h := bef_app (rs := rs) (gd := gd) w r []
  rw [List.append_nil] at h
  rw [h]
  show _ + 0 = _
  rw [Nat.add_zero]
  rfl
/-- texts of fewer than l letters -/
def cntTo (rs : Rws) (gd : List Nat) (l : Nat) : Nat := ((List.range l).map fun j => cw rs gd j 0).sum
theorem cntTo_succ (l : Nat) : cntTo rs gd (l + 1) = cntTo rs gd l + cw rs gd l 0 := by
  unfold cntTo
  rw [List.range_succ, List.map_append, List.sum_append]
  simp
theorem cntTo_mono {l l' : Nat} (h : l ≤ l') : cntTo rs gd l ≤ cntTo rs gd l' := by
  obtain ⟨k, rfl⟩ : ∃ k, l' = l + k := ⟨l' - l, by omega⟩
  induction k with
  | zero => exact Nat.le_refl _
  | succ k ih =>
    rw [show l + (k + 1) = (l + k) + 1 from rfl, cntTo_succ]
    have := ih (by omega)
    omega
/-- texts of the set that stand ahead of a word -/
def rank (rs : Rws) (gd : List Nat) (w : List Nat) : Nat := cntTo rs gd w.length + bef rs gd 0 w
/-- the text of number n -/
def NthR (m : Nat) (rs : Rws) (gd : List Nat) (n : Nat) : Option (List Nat) → Prop
  | none => ∃ L : Int, LongR m rs gd (some L) ∧ cntTo rs gd (L + 1).toNat ≤ n
  | some w => Ok m w ∧ run rs 0 w ∈ gd ∧ rank rs gd w = n
def numF (m n : Nat) (w : List Nat) : Nat := w.foldl (fun n a => n * m + a + 1) n
theorem numF_app (n : Nat) (u v : List Nat) : numF m n (u ++ v) = numF m (numF m n u) v := by simp [numF]
theorem numF_lt : ∀ (v x : List Nat) (n n' : Nat), v.length = x.length → Ok m v → n < n' → numF m n v < numF m n' x
  | [], [], n, n', _, _, h => h
  | a :: v, b :: x, n, n', hl, ov, h => by
    show numF m (n * m + a + 1) v < numF m (n' * m + b + 1) x
    refine numF_lt v x _ _ (by simpa using hl) ov.tl ?_
    have ha := ov.hd
    have h2 := Nat.mul_le_mul_right m (show n + 1 ≤ n' from h)
    rw [Nat.add_mul, Nat.one_mul] at h2
    omega
theorem wnum_len {u w : List Nat} (ou : Ok m u) (h : u.length < w.length) : wnum m u < wnum m w := by
  have e : w = w.take (w.length - u.length) ++ w.drop (w.length - u.length) := (List.take_append_drop ..).symm
  rw [e]
  show numF m 0 u < numF m 0 (_ ++ _)
  rw [numF_app]
  refine numF_lt _ _ _ _ (by rw [List.length_drop]; omega) ou ?_
  rcases snoc_cases (w.take (w.length - u.length)) with z | ⟨x, a, z⟩
  · have := congrArg List.length z
    rw [List.length_take, List.length_nil] at this
    omega
  · rw [z, numF_app]
    show 0 < _ + a + 1
    omega
theorem bef0_le (w : WFB m rs) : ∀ (v x : List Nat) (r n : Nat), v.length = x.length → r < rs.length → Ok m v → Ok m x → bef rs gd r v = 0 → run rs r x ∈ gd → numF m n v ≤ numF m n x
  | [], [], _, _, _, _, _, _, _, _ => Nat.le_refl _
  | a :: v, b :: x, r, n, hl, hr, ov, ox, hb, hg => by
    have ha := ov.hd
    have hbm := ox.hd
    have hl' : v.length = x.length := by simpa using hl
    have hb : (((row rs r).take a).map (cw rs gd v.length)).sum + bef rs gd (stp rs r a) v = 0 := hb
    show numF m (n * m + a + 1) v ≤ numF m (n * m + b + 1) x
    rcases Nat.lt_trichotomy a b with z | z | z
    · exact Nat.le_of_lt (numF_lt v x _ _ hl' ov.tl (by omega))
    · subst z
      exact bef0_le w v x _ _ hl' (w.stp_lt hr ha) ov.tl ox.tl (by omega) hg
    · have h1 : 0 < cw rs gd v.length (stp rs r b) := (cw_pos w _ _ (w.stp_lt hr hbm)).mpr ⟨x, ox.tl, hl'.symm, hg⟩
      have h2 : 0 < (((row rs r).take a).map (cw rs gd v.length)).sum := sum_pos_iff.mpr ⟨_, List.mem_map_of_mem (by
        refine List.mem_of_getElem? (i := b) ?_
        rw [List.getElem?_take_of_lt z]
        exact w.stp_at hr hbm), h1⟩
      omega
theorem cntTo_pos {l k : Nat} (h : k < l) (hp : 0 < cw rs gd k 0) : 0 < cntTo rs gd l := sum_pos_iff.mpr ⟨_, List.mem_map_of_mem (List.mem_range.mpr h), hp⟩
theorem rank0_least (w : WFB m rs) {v : List Nat} (ov : Ok m v) (hg : run rs 0 v ∈ gd) (h : rank rs gd v = 0) : LeastW m (fun u => run rs 0 u ∈ gd) (some v) := by
  refine .inr ⟨v, rfl, ov, hg, fun u ou hu => ?_⟩
  have h : cntTo rs gd v.length + bef rs gd 0 v = 0 := h
  rcases Nat.lt_trichotomy u.length v.length with z | z | z
  · have := cntTo_pos (rs := rs) (gd := gd) z ((cw_pos w _ _ w.pos).mpr ⟨u, ou, rfl, hu⟩)
    omega
  · exact bef0_le w v u 0 0 z.symm w.pos ov ou (by omega) hu
  · exact Nat.le_of_lt (wnum_len ov z)
theorem nth0 (w : WFB m rs) {res : Option (List Nat)} (h : NthR m rs gd 0 res) : LeastW m (fun u => run rs 0 u ∈ gd) res := by
  cases res with
  | none =>
    obtain ⟨L, hL, hc⟩ := h
    refine .inl ⟨rfl, fun u ou hu => ?_⟩
    have h1 := hL.2.2.1 u ou hu
    have := cntTo_pos (rs := rs) (gd := gd) (l := (L + 1).toNat) (k := u.length) (by omega) ((cw_pos w _ _ w.pos).mpr ⟨u, ou, rfl, hu⟩)
    omega
  | some v => exact rank0_least w h.1 h.2.1 h.2.2
/-- endlessly many texts: so many of some length -/
theorem endless (w : WFB m rs) (h : LongR m rs gd none) : ∃ b d : Nat, b < 2 * rs.length ∧ 1 ≤ d ∧ d ≤ rs.length ∧ ∀ j, 0 < cw rs gd (b + j * d) 0 := by
  obtain ⟨u0, ou0, pu0, hl0⟩ := h
  obtain ⟨u, ou, pu, hl, hl2⟩ := pump w _ u0 rfl ou0 pu0 hl0
  obtain ⟨i, j, hij, hj, e⟩ := not_nodup (f := fun k => run rs 0 (u.take k)) (n := rs.length) fun k _ => w.run_lt w.pos (ou.take k)
  have e : run rs 0 (u.take i) = run rs 0 (u.take j) := e
  refine ⟨u.length, j - i, hl2, by omega, by omega, fun q => (cw_pos w _ _ w.pos).mpr ?_⟩
  have hb : u.take j = u.take i ++ (u.drop i).take (j - i) := by
    conv => lhs; rw [show j = i + (j - i) by omega]
    exact List.take_add
  have hbl : ((u.drop i).take (j - i)).length = j - i := by rw [List.length_take, List.length_drop]; omega
  have hob : Ok m ((u.drop i).take (j - i)) := (ou.drop i).take _
  generalize hbk : (u.drop i).take (j - i) = bk at *
  have hloop : run rs (run rs 0 (u.take i)) bk = run rs 0 (u.take i) := by
    rw [← run_app, ← hb, e]
  have key : ∀ q : Nat, ∃ y, Ok m y ∧ y.length = q * (j - i) ∧ run rs (run rs 0 (u.take i)) y = run rs 0 (u.take i) := fun q => by
    induction q with
    | zero => exact ⟨[], .nil, by simp, rfl⟩
    | succ q ih =>
      obtain ⟨y, oy, hyl, hy⟩ := ih
      exact ⟨y ++ bk, oy.append hob, by rw [List.length_append, hyl, hbl, Nat.add_mul, Nat.one_mul], by rw [run_app, hy, hloop]⟩
  obtain ⟨y, oy, hyl, hy⟩ := key q
  refine ⟨u.take i ++ (y ++ u.drop i), (ou.take i).append (oy.append (ou.drop i)), ?_, ?_⟩
  · rw [List.length_append, List.length_append, List.length_take, List.length_drop, hyl]
    omega
  · rw [run_app, run_app, hy, ← run_app, List.take_append_drop]
    exact pu
theorem endless_cnt (w : WFB m rs) (h : LongR m rs gd none) {n l : Nat} (hl : (n + 2) * rs.length ≤ l) : n < cntTo rs gd l := by
  obtain ⟨b, d, hb, hd1, hd2, hp⟩ := endless w h
  have key : ∀ k : Nat, k + 1 ≤ cntTo rs gd (b + k * d + 1) := fun k => by
    induction k with
    | zero =>
      rw [cntTo_succ]
      have := hp 0
      omega
    | succ k ih =>
      rw [cntTo_succ]
      have h1 := hp (k + 1)
      have h2 := cntTo_mono (rs := rs) (gd := gd) (l := b + k * d + 1) (l' := b + (k + 1) * d) (by rw [Nat.add_mul, Nat.one_mul]; omega)
      omega
  have h1 := key n
  have h2 : n * d ≤ n * rs.length := Nat.mul_le_mul_left n hd2
  rw [Nat.add_mul] at hl
  have h3 := cntTo_mono (rs := rs) (gd := gd) (l := b + n * d + 1) (l' := l) (by omega)
  omega
end
end U
namespace U
open PySem PySem.Spec PyProof.Rows L2
theorem sum_ints (l : List Nat) : (l.map Int.ofNat).sum = ((l.sum : Nat) : Int) := by
  induction l with
  | nil => rfl
  | cons a l ih =>
    rw [List.map_cons, List.sum_cons, List.sum_cons, ih]
    show (a : Int) + ((l.sum : Nat) : Int) = _
    rw [Int.natCast_add]
def extW (m : Nat) (w : List Nat) : List (List Nat) := (List.range m).map fun a => w ++ [a]
def allL (m : Nat) : Nat → List (List Nat)
  | 0 => [[]]
  | l + 1 => (allL m l).flatMap (extW m)
def allTo (m : Nat) : Nat → List (List Nat)
  | 0 => [[]]
  | l + 1 => allTo m l ++ allL m (l + 1)
theorem allL_ok {m : Nat} : ∀ (l : Nat) (w : List Nat), w ∈ allL m l ↔ Ok m w ∧ w.length = l
  | 0, w => by
    show w ∈ [[]] ↔ _
    rw [List.mem_singleton]
    constructor
    · rintro rfl
      exact ⟨.nil, rfl⟩
    · rintro ⟨_, h⟩
      exact List.length_eq_zero_iff.mp h
  | l + 1, w => by
    show w ∈ (allL m l).flatMap (extW m) ↔ _
    rw [List.mem_flatMap]
    constructor
    · rintro ⟨u, hu, hw⟩
      obtain ⟨a, ha, rfl⟩ := List.mem_map.mp hw
      obtain ⟨ou, hl⟩ := (allL_ok l u).mp hu
      exact ⟨ou.snoc (List.mem_range.mp ha), by rw [List.length_append, hl] <;> rfl⟩
    · rintro ⟨ow, hl⟩
      rcases snoc_cases w with rfl | ⟨u, a, rfl⟩
      · cases hl
      · obtain ⟨ou, ha⟩ := ow.init
        exact ⟨u, (allL_ok l u).mpr ⟨ou, by simpa using hl⟩, List.mem_map.mpr ⟨a, List.mem_range.mpr ha, rfl⟩⟩
theorem allTo_ok {m : Nat} : ∀ (l : Nat) (w : List Nat), w ∈ allTo m l ↔ Ok m w ∧ w.length ≤ l
  | 0, w => by
    rw [show allTo m 0 = allL m 0 from rfl, allL_ok 0 w]
    exact ⟨fun h => ⟨h.1, by omega⟩, fun h => ⟨h.1, by omega⟩⟩
  | l + 1, w => by
    show w ∈ allTo m l ++ allL m (l + 1) ↔ _
    rw [List.mem_append, allTo_ok l w, allL_ok (l + 1) w]
    constructor
    · rintro (⟨h1, h2⟩ | ⟨h1, h2⟩)
      · exact ⟨h1, by omega⟩
      · exact ⟨h1, by omega⟩
    · rintro ⟨h1, h2⟩
      by_cases e : w.length = l + 1
      · exact .inr ⟨h1, e⟩
      · exact .inl ⟨h1, by omega⟩
theorem allL_len {m : Nat} : ∀ l : Nat, (allL m l).length = m ^ l
  | 0 => rfl
  | l + 1 => by
    have key : ∀ L : List (List Nat), (L.flatMap (extW m)).length = L.length * m := fun L => by
      induction L with
      | nil => simp
      | cons a L ih =>
        rw [List.flatMap_cons, List.length_append, ih, List.length_cons, Nat.add_mul, Nat.one_mul]
        unfold extW
        rw [List.length_map, List.length_range]
        omega
    show ((allL m l).flatMap (extW m)).length = _
    rw [key, allL_len l, Nat.pow_succ]
def begW (m : Nat) : Nat → Nat
  | 0 => 0
  | l + 1 => begW m l * m + 1
theorem begW_end {m : Nat} : ∀ l : Nat, begW m (l + 1) = begW m l + m ^ l
  | 0 => by simp [begW]
  | l + 1 => by
    have h := begW_end (m := m) l
    show begW m (l + 1) * m + 1 = begW m (l + 1) + m ^ (l + 1)
    conv => lhs; rw [h]
    rw [Nat.add_mul, Nat.pow_succ]
    show begW m l * m + m ^ l * m + 1 = begW m l * m + 1 + m ^ l * m
    omega
/-- the words of a length have numbers without a hole -/
theorem allL_num {m : Nat} : ∀ (l i : Nat) (w : List Nat), (allL m l)[i]? = some w → wnum m w = begW m l + i
  | 0, i, w, h => by
    have hi := (List.getElem?_eq_some_iff.mp h).1
    have hi : i < 1 := hi
    have : i = 0 := by omega
    subst this
    cases h
    rfl
  | l + 1, i, w, h => by
    have key : ∀ (L : List (List Nat)) (b : Nat), (∀ j u, L[j]? = some u → wnum m u = b + j) → ∀ i w, (L.flatMap (extW m))[i]? = some w → wnum m w = b * m + 1 + i := fun L => by
      induction L with
      | nil => intro b _ i w h; simp at h
      | cons u L ih =>
        intro b hb i w h
        rw [List.flatMap_cons] at h
        have hel : (extW m u).length = m := by
          unfold extW
          rw [List.length_map, List.length_range]
        by_cases hi : i < m
        · rw [List.getElem?_append_left (by omega)] at h
          unfold extW at h
          rw [List.getElem?_map, List.getElem?_range hi] at h
          cases h
          have h0 := hb 0 u rfl
          rw [wnum_snoc, h0]
          show b * m + i + 1 = _
          omega
        · rw [List.getElem?_append_right (by omega), hel] at h
          have h2 := ih (b + 1) (fun j v hv => by
            have := hb (j + 1) v hv
            omega) (i - m) w h
          rw [h2, Nat.add_mul, Nat.one_mul]
          omega
    exact key (allL m l) (begW m l) (allL_num l) i w h
theorem allTo_len {m : Nat} : ∀ l : Nat, (allTo m l).length = begW m (l + 1)
  | 0 => by simp [allTo, begW]
  | l + 1 => by
    show (allTo m l ++ allL m (l + 1)).length = _
    rw [List.length_append, allTo_len l, allL_len, begW_end (l + 1)]
theorem allTo_num {m : Nat} : ∀ (l i : Nat) (w : List Nat), (allTo m l)[i]? = some w → wnum m w = i
  | 0, i, w, h => by
    have := allL_num (m := m) 0 i w h
    rw [this]
    show 0 + i = i
    omega
  | l + 1, i, w, h => by
    have h : (allTo m l ++ allL m (l + 1))[i]? = some w := h
    by_cases hi : i < (allTo m l).length
    · rw [List.getElem?_append_left hi] at h
      exact allTo_num l i w h
    · rw [List.getElem?_append_right (by omega)] at h
      have := allL_num _ _ _ h
      rw [allTo_len] at this hi
      omega
/-- texts of words -/
def tx (al w : List Nat) : V := .str (SX.S (spl al w))
theorem spl_len (al w : List Nat) : (spl al w).length = w.length := List.length_map ..
theorem spl_snoc (al w : List Nat) (k : Nat) : SX.S (spl al w) ++ (⟨#[al.getD k 0]⟩ : Str) = SX.S (spl al (w ++ [k])) := by
  unfold spl
  rw [List.map_append]
  exact SX.S_cat _ [al.getD k 0]
theorem spl_inj {al : List Nat} (nd : al.Nodup) : ∀ {u w : List Nat}, Ok al.length u → Ok al.length w → spl al u = spl al w → u = w
  | [], [], _, _, _ => rfl
  | [], b :: w, _, _, e => by cases e
  | a :: u, [], _, _, e => by cases e
  | a :: u, b :: w, ou, ow, e => by
    have e : al.getD a 0 :: spl al u = al.getD b 0 :: spl al w := e
    have e1 : al.getD a 0 = al.getD b 0 := (List.cons.inj e).1
    have e2 := spl_inj nd ou.tl ow.tl (List.cons.inj e).2
    have ha := ou.hd
    have hb := ow.hd
    rw [List.getD_eq_getElem?_getD, List.getD_eq_getElem?_getD, List.getElem?_eq_getElem ha, List.getElem?_eq_getElem hb] at e1
    have e1 : al[a] = al[b] := e1
    have pw := List.pairwise_iff_getElem.mp (List.nodup_iff_pairwise_ne.mp nd)
    rw [e2]
    rcases Nat.lt_trichotomy a b with z | z | z
    · exact absurd e1 (pw a b ha hb z)
    · rw [z]
    · exact absurd e1.symm (pw b a hb ha z)
theorem Ok.word {al w : List Nat} (h : Ok al.length w) : Word al w (spl al w) := ⟨h, rfl⟩
/-- the order of texts as long as one another -/
theorem spl_lt {al : List Nat} (inc : al.Pairwise (· < ·)) : ∀ (u w : List Nat) (n : Nat), u.length = w.length → Ok al.length u → Ok al.length w → (spl al u < spl al w ↔ numF al.length n u < numF al.length n w)
  | [], [], n, _, _, _ => by
    constructor
    · intro h
      cases h
    · intro h
      exact absurd h (Nat.lt_irrefl _)
  | a :: u, b :: w, n, hl, ou, ow => by
    have hl' : u.length = w.length := by simpa using hl
    have ha := ou.hd
    have hb := ow.hd
    have pw := List.pairwise_iff_getElem.mp inc
    have ea : al.getD a 0 = al[a] := by rw [List.getD_eq_getElem?_getD, List.getElem?_eq_getElem ha] <;> rfl
    have eb : al.getD b 0 = al[b] := by rw [List.getD_eq_getElem?_getD, List.getElem?_eq_getElem hb] <;> rfl
    show (al.getD a 0 :: spl al u < al.getD b 0 :: spl al w) ↔ numF al.length (n * al.length + a + 1) u < numF al.length (n * al.length + b + 1) w
    rw [List.cons_lt_cons_iff, ea, eb]
    rcases Nat.lt_trichotomy a b with z | z | z
    · exact ⟨fun _ => numF_lt u w _ _ hl' ou.tl (by omega), fun _ => .inl (pw a b ha hb z)⟩
    · subst z
      rw [← spl_lt inc u w _ hl' ou.tl ow.tl]
      exact ⟨fun h => h.elim (fun h => absurd h (Nat.lt_irrefl _)) fun h => h.2, fun h => .inr ⟨rfl, h⟩⟩
    · have hba := pw b a hb ha z
      refine ⟨fun h => ?_, fun h => ?_⟩
      · rcases h with h | h
        · omega
        · have := h.1
          omega
      · have := numF_lt w u (n * al.length + b + 1) (n * al.length + a + 1) hl'.symm ow.tl (by omega)
        omega
/-- the lesser one -/
def minW (m : Nat) : Option (List Nat) → Option (List Nat) → Option (List Nat)
  | none, r => r
  | some u, none => some u
  | some u, some w => if wnum m w < wnum m u then some w else some u
theorem LeastW.or {m : Nat} {P Q : List Nat → Prop} {r r' : Option (List Nat)} (h : LeastW m P r) (h' : LeastW m Q r') : LeastW m (fun u => P u ∨ Q u) (minW m r r') := by
  rcases h with ⟨rfl, h⟩ | ⟨u, rfl, ou, pu, lu⟩
  · rcases h' with ⟨rfl, h'⟩ | ⟨w, rfl, ow, qw, lw⟩
    · exact .inl ⟨rfl, fun u ou z => z.elim (h u ou) (h' u ou)⟩
    · exact .inr ⟨w, rfl, ow, .inr qw, fun u ou z => z.elim (fun z => absurd z (h u ou)) (lw u ou)⟩
  · rcases h' with ⟨rfl, h'⟩ | ⟨w, rfl, ow, qw, lw⟩
    · exact .inr ⟨u, rfl, ou, .inl pu, fun x ox z => z.elim (lu x ox) fun z => absurd z (h' x ox)⟩
    · show LeastW m _ (if wnum m w < wnum m u then some w else some u)
      by_cases z : wnum m w < wnum m u
      · rw [if_pos z]
        exact .inr ⟨w, rfl, ow, .inr qw, fun x ox q => q.elim (fun q => by have := lu x ox q; omega) (lw x ox)⟩
      · rw [if_neg z]
        exact .inr ⟨u, rfl, ou, .inl pu, fun x ox q => q.elim (lu x ox) (fun q => by have := lw x ox q; omega)⟩
/-- the least word and the list of words in order -/
theorem LeastW.at {m : Nat} {P : List Nat → Prop} {r : Option (List Nat)} (h : LeastW m P r) {l i : Nat} {w : List Nat} (hi : (allTo m l)[i]? = some w) (hp : P w) (hn : ∀ (j : Nat) (u : List Nat), j < i → (allTo m l)[j]? = some u → ¬ P u) : r = some w := by
  have ow := ((allTo_ok l w).mp (List.mem_of_getElem? hi)).1
  rcases h with ⟨rfl, h⟩ | ⟨u, rfl, ou, pu, lu⟩
  · exact absurd hp (h w ow)
  · have h1 := lu w ow hp
    rw [allTo_num l i w hi] at h1
    have hlt := (List.getElem?_eq_some_iff.mp hi).1
    have hu : (allTo m l)[wnum m u]? = some u := by
      have hk : wnum m u < (allTo m l).length := by omega
      have e : (allTo m l)[wnum m u]? = some (allTo m l)[wnum m u] := List.getElem?_eq_getElem hk
      have ov := ((allTo_ok l _).mp (List.mem_of_getElem? e)).1
      have e2 : u = (allTo m l)[wnum m u] := ou.inj ov (allTo_num l _ _ e).symm
      exact e.trans (congrArg some e2.symm)
    rcases Nat.lt_or_ge (wnum m u) i with z | z
    · exact absurd pu (hn _ u z hu)
    · have e : wnum m u = i := by omega
      rw [e, hi] at hu
      rw [Option.some.inj hu]
end U
set_option maxHeartbeats 4000000
namespace X7
open PySem PySem.Spec PyProof.Rows L2 U
def strV (x y : Str) (i : Nat) : Str := if i = 0 then x else y
theorem cmpOf_strs {prog : Program} {w : World} {A : Around} {x y : Str} {t u : Tok} : CmpOf prog w A .Lt (fun i v => (#[.str x t, .str y u] : Array Value)[i]? = some v) (fun i j => decide ((strV x y i).cps.toList < (strV x y j).cps.toList)) := fun i j vi vj s Q E hi hj h => by
  have key : ∀ (i : Nat) (v : Value), (#[.str x t, .str y u] : Array Value)[i]? = some v → ∃ t', v = .str (strV x y i) t' := fun i v hi => by
    match i, hi with
    | 0, hi => exact ⟨t, by simpa [strV] using hi.symm⟩
    | 1, hi => exact ⟨u, by simpa [strV] using hi.symm⟩
    | n + 2, hi => simp at hi
  obtain ⟨t1, rfl⟩ := key i vi hi
  obtain ⟨t2, rfl⟩ := key j vj hj
  exact richCompare_gives (op := .Lt) (typeIs_str s _ t1) (typeIs_str s _ t2) F.slot_str_lt F.entry_str_lt (F.args_str_lt_2 _ _) (gives_str_lt _ _ t1 t2) (fun e => nomatch e) h
theorem min_two_strs {prog : Program} {w : World} {A : Around} {E : Value → Shared → Prop} {s : Shared} {x y : Str} {t u : Tok} {Q : Value → Shared → Prop} (hh : A.handled = none)
    (h : ∀ h' tk, (∀ c o, s.heap.get? c = some o → h'.get? c = some o) → Q (if y.cps.toList < x.cps.toList then .str y u else .str x t) { s with heap := h', toks := tk }) :
    wpAny (model prog w) A (call (.builtin "min") [.str x t, .str y u]) Q E s := by
  have hT : (s.heap.push { cls := .type "tuple", data := .seq #[.str x t, .str y u] }).IsTuple s.heap.objs.size #[.str x t, .str y u] := ⟨_, Heap.get?_push_size _ rfl, rfl, 0, rfl⟩
  refine call_min_two (wpAny_pyIter_tuple hT ?_)
  have hsz : (s.heap.push { cls := .type "tuple", data := .seq #[.str x t, .str y u] }).objs.size = s.heap.objs.size + 1 := Heap.size_push ..
  refine ⟨_, [_, s.heap.objs.size], [_], _, _, _, _, rfl, Walks.tuple (A := A.in1) hh _ s.heap.objs.size (by rw [hsz]; exact Nat.ne_of_lt (Nat.lt_succ_self _)) #[.str x t, .str y u],
    ⟨⟨_, Heap.get?_push_size _ rfl, rfl, rfl⟩, hT.push _⟩, fun c hc => ?_, by simp, cmpOf_strs, fun v h' tk hP hk => ?_⟩
  · show c < ((s.heap.push _).push _).objs.size
    rw [Heap.size_push, hsz]
    rcases List.mem_cons.mp hc with rfl | hc
    · rw [hsz]; exact Nat.lt_succ_self _
    · rcases List.mem_cons.mp hc with rfl | hc
      · exact Nat.lt_succ_of_lt (Nat.lt_succ_self _)
      · cases hc
  · have hold : ∀ c o, s.heap.get? c = some o → h'.get? c = some o := fun c o e => by
      refine hk c o (fun hm => ?_) (Heap.get?_push_of_some _ (Heap.get?_push_of_some _ e))
      rcases List.mem_cons.mp hm with e1 | hm
      · have := Heap.lt_size e; rw [e1, hsz] at this; exact Nat.lt_irrefl _ (Nat.lt_of_succ_lt this)
      · cases hm
    have := h h' tk hold
    have hv : v = if y.cps.toList < x.cps.toList then .str y u else .str x t := by
      have hP' : (#[.str x t, .str y u] : Array Value)[(if decide (y.cps.toList < x.cps.toList) = true then 1 else 0 : Nat)]? = some v := hP
      by_cases hc : y.cps.toList < x.cps.toList
      · rw [decide_eq_true hc, if_pos rfl] at hP'
        rw [if_pos hc]
        exact (Option.some.inj hP').symm
      · rw [decide_eq_false hc, if_neg Bool.false_ne_true] at hP'
        rw [if_neg hc]
        exact (Option.some.inj hP').symm
    rw [hv]; exact this
def rMinS : List V → Hp → VK → Prop := fun xs H Q => ∃ x y, xs = [.str x, .str y] ∧ Q (.str (if y.cps.toList < x.cps.toList then y else x)) H
theorem call_minS {X : Cx} (hc : X.calm = true) : CallR X (.builtin "min") rMinS := by
  intro pins s σ H xs us Q I r h
  obtain ⟨i, j, rfl, q⟩ := h
  obtain ⟨u, w', rfl, ⟨t, rfl⟩, ⟨t', rfl⟩⟩ := vals2 r
  refine min_two_strs (I.ok.hd hc) fun h' tk k => ⟨_, H, I.kept k, ?_, q⟩
  by_cases hj : j.cps.toList < i.cps.toList
  · rw [if_pos hj, if_pos hj]; exact ⟨_, rfl⟩
  · rw [if_neg hj, if_neg hj]; exact ⟨_, rfl⟩
theorem sumK {X : Cx} (K : PySem.W.Frag) (hK : X.K = K) (hc : X.calm = true) : CallR X (.builtin "sum") (rSum K) := by
  subst hK
  exact cr_sum hc
theorem revLK {X : Cx} (K : PySem.W.Frag) (hK : X.K = K) {e : Expr} {te : TE} {k : Nat} {p1 p2 p3 pos : Pos} (he : PE X e te) : PE X (.Subscript e (.Slice none none (some (.UnaryOp .USub (.Constant (.int 1) k p1) p2)) p3) pos) (tRevL K te) := by
  subst hK
  exact pe_revL he
theorem i_revL {K : PySem.W.Frag} {te : TE} {σ : L2.St} {H : Hp} {Q : VK} (q : te σ H fun x H1 => ∃ a xs, x = .ref a ∧ SqL K H1 a xs ∧ ∀ p, H1 p = none → Q (.ref p) (upd H1 p (.lst xs.reverse))) : tRevL K te σ H Q := q
theorem i_cat {H : Hp} {Q : VK} {l b : Addr} {xs zs : List V} (h : H l = some (.lst xs)) (h' : H b = some (.lst zs)) (hl : xs.length + zs.length ≤ 16777216) (q : ∀ p, H p = none → Q (.ref p) (upd H p (.lst (xs ++ zs)))) : rCat (.ref l) (.ref b) H Q := ⟨l, b, xs, zs, rfl, rfl, h, h', szl hl, q⟩
end X7
namespace X
open PySem PySem.Spec PyProof.Rows L2 C8 U X7
local macro_rules | `(tactic| walk_at "hp") => `(tactic| first
  | assumption | exact upd_same
  | (rw [upd_ne (by first | assumption | (apply Ne.symm; assumption))]; walk_at "hp"))
local macro_rules | `(tactic| walk_at "sd") => `(tactic| first
  | assumption | exact ⟨by omega, by omega⟩ | exact Or.inl ⟨by omega, by omega⟩ | exact Or.inr ⟨by omega, by omega⟩
  | (show (0 : Int) < _; omega) | (show (0 : Int) ≤ _; omega) | (show _ ≠ (0 : Int); omega))
local macro_rules | `(tactic| walk_at "st") => `(tactic| first
  | with_reducible refine i_seq ?_ | with_reducible refine i_asg ?_ | with_reducible refine i_C ?_
  | ((with_reducible refine i_var (v := ?v) ?e ?_); (case e => exact rfl))
  | ((with_reducible refine i_name (σ' := ?v) ?e ?_); (case e => exact rfl))
  | with_reducible refine i_op ?_ | with_reducible refine i_un ?_ | with_reducible refine i_rI0 ?_ | with_reducible refine i_rU ?_
  | ((with_reducible refine i_rI ?c ?_); (case c => walk_at "sd"))
  | with_reducible refine i_eqI ?_ | with_reducible refine i_neI ?_ | with_reducible refine i_eqS ?_ | with_reducible refine i_neS ?_ | with_reducible refine i_eqB ?_ | with_reducible refine i_neB ?_
  | with_reducible refine i_for ?_ | with_reducible refine i_lc ?_ | with_reducible refine i_lc2 ?_ | with_reducible refine i_dc ?_ | with_reducible refine i_sortSet ?_ | with_reducible refine i_iSeq ?_ | with_reducible refine i_iRng1 ?_ | with_reducible refine i_iRng2 ?_ | with_reducible refine i_iStr ?_ | with_reducible refine i_iEnumS ?_ | with_reducible refine i_iEnumR ?_
  | with_reducible refine i_revL ?_ | with_reducible refine i_chain ?_ | with_reducible refine ex_str ?_ | with_reducible refine ex_str1 ?_ | with_reducible refine i_m1 ?_ | with_reducible refine i_bms ?_
  | with_reducible refine i_CB ?_ | with_reducible refine i_nil ?_ | with_reducible refine i_cons ?_ | with_reducible refine i_call ?_ | with_reducible refine i_make ?_
  | with_reducible refine i_ret ?_ | with_reducible refine i_retN ?_ | with_reducible refine i_drop ?_ | with_reducible refine i_ifS ?_ | with_reducible refine i_test ?_ | with_reducible refine i_tB ?_
  | with_reducible refine i_and ?_ | with_reducible refine i_or ?_ | with_reducible refine i_not ?_ | with_reducible refine i_andV ?_ | with_reducible refine i_orV ?_ | with_reducible refine i_notV ?_ | with_reducible refine i_if ?_
  | with_reducible refine i_tup ?_ | with_reducible refine i_lst ?_ | with_reducible refine i_sub ?_ | with_reducible refine i_next ?_ | with_reducible refine i_fld ?_ | with_reducible refine i_bm ?_
  | with_reducible refine iteIN ?_ | with_reducible refine iteF ?_ | with_reducible refine iteT ?_ | with_reducible refine iteNF ?_ | with_reducible refine iteNT ?_
  | ((with_reducible refine i_wipe ?e ?_); (case e => exact rfl)) | with_reducible refine i_yes ?_ | with_reducible refine ex_bl ?_ | with_reducible refine i_int1 ?_ | with_reducible refine ex_int ?_
  | ((with_reducible refine i_lenN ?h ?_); (case h => walk_at "hp"))
  | with_reducible refine i_sfld ?_ | with_reducible refine i_dget ?_ | with_reducible refine i_din ?_ | with_reducible refine i_dnotin ?_ | with_reducible refine i_dput ?_ | with_reducible refine i_dnewK ?_ | with_reducible refine i_disp1 ?_
  | with_reducible refine i_nget ?_ | with_reducible refine i_nin ?_ | with_reducible refine i_nnotin ?_ | with_reducible refine i_nput ?_ | with_reducible refine i_dnewN ?_
  | with_reducible refine i_callS ?_ | with_reducible refine i_ownbin ?_ | with_reducible refine i_ownun ?_ | with_reducible refine i_raiseE ?_ | with_reducible refine i_mt ?_ | with_reducible refine i_xp ?_
  | with_reducible refine i_exS ?_ | with_reducible refine i_sl ?_ | with_reducible refine i_noPart ?_ | with_reducible refine i_part ?_ | with_reducible refine ex_intV ?_ | with_reducible refine i_lenSetG ?_ | with_reducible refine i_break ?_ | with_reducible refine i_isN ?_ | with_reducible refine i_notN ?_ | with_reducible refine iteNon ?_ | with_reducible refine iteNonN ?_ | with_reducible refine iteRefN ?_ | with_reducible refine iteRefNN ?_ | with_reducible refine iteStrN ?_ | with_reducible refine iteStrNN ?_
  | ((with_reducible refine i_gTup2 (x := ?x) (y := ?y) ?h ?e ?_); (case h => walk_at "hp"); (case e => rfl))
  | ((with_reducible refine i_gTup3 (x := ?x) (y := ?y) (z := ?z) ?h ?e ?_); (case h => walk_at "hp"); (case e => rfl))
  | with_reducible refine i_inSg ?_ | with_reducible refine i_notInSg ?_
  | with_reducible refine i_bmStr ?_ | ((with_reducible refine i_bmL (xs := ?x) ?h ?_); (case h => walk_at "hp"))
  | ((with_reducible refine i_lenL (xs := ?x) ?h ?_); (case h => walk_at "hp"))
  | ((with_reducible refine i_lenT (xs := ?x) ?h ?_); (case h => walk_at "hp"))
  | ((with_reducible refine i_ixL (xs := ?x) (v := ?v) ?h ?e ?_); (case h => walk_at "hp"); (case e => rfl))
  | ((with_reducible refine i_ixT (xs := ?x) (v := ?v) ?h ?e ?_); (case h => walk_at "hp"); (case e => rfl))
  | ((with_reducible refine i_setL (xs := ?x) (j := ?v) ?h ?e ?_); (case h => walk_at "hp"); (case e => rfl)))
local macro_rules | `(tactic| walk_at "go") => `(tactic| repeat walk_at "st")
abbrev s_law_pick : Stmt := top 55
theorem sc_law_pick : FnScope ["source", "many", "digit", "mixed"] ["source", "many"] (fnScope s_law_pick) := ⟨rfl, rfl, rfl, by decide +kernel, rfl, by decide +kernel, by decide +kernel⟩
def sp_law_pick : Sp := fun vs H Q _ => ∃ (S : AS) (a : Addr) (m : Int), vs = [.ref a, .int m] ∧ S a ∧ Srcs S H ∧ 0 < m ∧ m < 1073741824 ∧ ∀ (d : Int) (H' : Hp), 0 ≤ d → d < m → Ev S H H' → Q (.int d) H'
section
variable {P : Program} {w : World} {K : PySem.W.Frag} {mg : Str → Option Value} {base : Heap} {C : Addr} {r : Er}
set_option maxHeartbeats 4000000 in
theorem ok_law_pick {f : Addr} {fd : FuncData} (F : Def K mg "_law_pick" s_law_pick f fd) (T : Txt K mg C r) (b : Binds K fd ["source", "many"] []) : Cal P w K mg base 1 "_law_pick" (sp_law_pick) [] := by
  refine cal0 F b .nil sc_law_pick (fun vs H Q E h => ?_) (fun cdv A outer s H vs Q E hr h => ?_)
  · obtain ⟨_, _, _, rfl, _⟩ := h
    rfl
  · obtain ⟨S, a, m, rfl, ha, hS, h0, h1, k⟩ := h
    refine ⟨_, (pss_cons (ps_if (pt_cmpR op_gt (pe_ix (ixK K rfl) (pv 0) pe_int (fun _ _ => rfl)) pe_int (nomark _)) (pss_cons (ps_set (i := 2) sc_law_pick.nd rfl (by first | exact Or.inl rfl | exact Or.inr rfl) (pe_op op_mod (pe_callTy int1 (by rfl) T.b_int (by decide +kernel) (pa_cons (pe_ix (ixK K rfl) (pv 0) pe_int (fun _ _ => rfl)) pa_nil)) (pv 1)))
        (pss_cons (ps_asg (pe_op op_fdiv (pe_ix (ixK K rfl) (pv 0) pe_int (fun _ _ => rfl)) (pv 1)) (pg_sub (pv 0) pe_int set_list))
        (pss_one (ps_ret (pv 2))))) pss_nil)
        (pss_cons (ps_asg (pe_op op_add (pe_ix (ixK K rfl) (pv 0) pe_int (fun _ _ => rfl)) pe_int) (pg_sub (pv 0) pe_int set_list))
        (pss_cons (ps_set (i := 3) sc_law_pick.nd rfl (by first | exact Or.inl rfl | exact Or.inr rfl) (pe_op op_mod (pe_callTy int1 (by rfl) T.b_int (by decide +kernel) (pa_cons (pe_op op_mul (pe_op op_add (pe_ix (ixK K rfl) (pv 0) pe_int (fun _ _ => rfl)) (pe_op op_mul pe_int (pe_ix (ixK K rfl) (pv 0) pe_int (fun _ _ => rfl)))) pe_int) pa_nil)) pe_int))
        (pss_cons (ps_set (i := 3) sc_law_pick.nd rfl (by first | exact Or.inl rfl | exact Or.inr rfl) (pe_op op_mod (pe_callTy int1 (by rfl) T.b_int (by decide +kernel) (pa_cons (pe_op op_add (pe_op op_add (pe_op op_mul (pv 3) (pv 3)) (pe_op op_mul pe_int (pe_ix (ixK K rfl) (pv 0) pe_int (fun _ _ => rfl)))) (pe_ix (ixK K rfl) (pv 0) pe_int (fun _ _ => rfl))) pa_nil)) pe_int))
        (pss_cons (ps_set (i := 3) sc_law_pick.nd rfl (by first | exact Or.inl rfl | exact Or.inr rfl) (pe_op op_mod (pe_callTy int1 (by rfl) T.b_int (by decide +kernel) (pa_cons (pe_op op_add (pe_op op_mul (pv 3) pe_int) pe_int) pa_nil)) pe_int))
        (pss_cons (ps_set (i := 3) sc_law_pick.nd rfl (by first | exact Or.inl rfl | exact Or.inr rfl) (pe_op op_mod (pe_callTy int1 (by rfl) T.b_int (by decide +kernel) (pa_cons (pe_op op_add (pe_op op_mul (pv 3) (pv 3)) (pv 3)) pa_nil)) pe_int))
        (pss_one (ps_ret (pe_op op_mod (pe_callTy int1 (by rfl) T.b_int (by decide +kernel) (pa_cons (pe_op op_fdiv (pv 3) pe_int) pa_nil)) (pv 1)))))))))), ?_⟩
    obtain ⟨x, y, z, hs⟩ := hS a ha
    walk_at "go"
    refine iteD (fun hx => ?_) (fun hx => ?_)
    · walk_at "go"
      exact k _ _ (Int.emod_nonneg _ (by omega)) (Int.emod_lt_of_pos _ h0) (.wrote hS ha)
    · walk_at "go"
      exact k _ _ (Int.emod_nonneg _ (by omega)) (Int.emod_lt_of_pos _ h0) (.wrote hS ha)
end
abbrev s_is_integer : Stmt := top 16
theorem sc_is_integer : FnScope ["thing", "low", "high"] ["thing", "low", "high"] (fnScope s_is_integer) := ⟨rfl, rfl, rfl, by decide +kernel, rfl, by decide +kernel, by decide +kernel⟩
def sp_is_integer : Sp := fun vs H Q _ => ∃ (i lo hi : Int), vs = [.int i, .int lo, .int hi] ∧ Q (.bl (decide (lo ≤ i ∧ i ≤ hi))) H
section
variable {P : Program} {w : World} {K : PySem.W.Frag} {mg : Str → Option Value} {base : Heap} {C : Addr} {r : Er}
set_option maxHeartbeats 4000000 in
theorem ok_is_integer {f : Addr} {fd : FuncData} (F : Def K mg "is_integer" s_is_integer f fd) (T : Txt K mg C r) (b : Binds K fd ["thing", "low", "high"] []) : Cal P w K mg base 1 "is_integer" (sp_is_integer) [] := by
  refine cal0 F b .nil sc_is_integer (fun vs H Q E h => ?_) (fun cdv A outer s H vs Q E hr h => ?_)
  · obtain ⟨_, _, _, rfl, _⟩ := h
    rfl
  · obtain ⟨i, lo, hi, rfl, k⟩ := h
    refine ⟨_, (pss_cons (ps_if (PW.pt (pw_or (pt_val (pe_callB (isiK K rfl) (by rfl) T.b_isinstance (by decide +kernel) (pa_cons (pv 0) (pa_cons (pe_bltn (v := .ty "bool") (u := .type "bool") (by rfl) T.b_bool (by decide +kernel) rfl) pa_nil)))) (pw_or1 (pt_not (pt_val (pe_callB (isiK K rfl) (by rfl) T.b_isinstance (by decide +kernel) (pa_cons (pv 0) (pa_cons (pe_bltn (v := .ty "int") (u := .type "int") (by rfl) T.b_int (by decide +kernel) rfl) pa_nil)))))))) (pss_one (ps_ret pe_bl)) pss_nil)
        (pss_one (ps_ret (pe_and (pe_cmpR op_ge (pv 0) (pv 1) (nomark _)) (pe_one (pe_or (pe_cmpR op_isN1 (pv 2) pe_non (nomark _)) (pe_one (pe_cmpR op_le (pv 0) (pv 2) (nomark _))))))))), ?_⟩
    walk_at "go"
    refine i_isi (.base (.int i)) (r := false) (by decide +kernel) ?_
    walk_at "go"
    refine i_isi (.base (.int i)) (r := true) (by decide +kernel) ?_
    walk_at "go"
    refine iteD (fun h1 => ?_) (fun h1 => ?_)
    · walk_at "go"
      have e : decide (i ≤ hi) = decide (lo ≤ i ∧ i ≤ hi) := by simp [h1]
      rw [e]
      exact k
    · have e : false = decide (lo ≤ i ∧ i ≤ hi) := by simp [h1]
      rw [e]
      exact k
end
abbrev s_is_listed : Stmt := top 17
theorem sc_is_listed : FnScope ["thing"] ["thing"] (fnScope s_is_listed) := ⟨rfl, rfl, rfl, by decide +kernel, rfl, by decide +kernel, by decide +kernel⟩
def sp_is_listed : Sp := fun vs H Q _ => ∃ (p : Addr) (t : Bool) (xs : List V), vs = [.ref p] ∧ H p = some (sq t xs) ∧ ∀ H', Same H H' → Q (.bl true) H'
section
variable {P : Program} {w : World} {K : PySem.W.Frag} {mg : Str → Option Value} {base : Heap} {C : Addr} {r : Er}
set_option maxHeartbeats 4000000 in
theorem ok_is_listed {f : Addr} {fd : FuncData} (F : Def K mg "is_listed" s_is_listed f fd) (T : Txt K mg C r) (b : Binds K fd ["thing"] []) : Cal P w K mg base 1 "is_listed" (sp_is_listed) [] := by
  refine cal0 F b .nil sc_is_listed (fun vs H Q E h => ?_) (fun cdv A outer s H vs Q E hr h => ?_)
  · obtain ⟨_, _, _, rfl, _⟩ := h
    rfl
  · obtain ⟨p, t, xs, rfl, hp, k⟩ := h
    refine ⟨_, (pss_one (ps_ret (pe_callB (isiTK K rfl) (by rfl) T.b_isinstance (by decide +kernel) (pa_cons (pv 0) (pa_cons (pe_tup (pa_cons (pe_bltn (v := .ty "tuple") (u := .type "tuple") (by rfl) T.b_tuple (by decide +kernel) rfl) (pa_cons (pe_bltn (v := .ty "list") (u := .type "list") (by rfl) T.b_list (by decide +kernel) rfl) pa_nil))) pa_nil))))), ?_⟩
    walk_at "go"
    refine ⟨by decide, fun tp htp => ?_⟩
    walk_at "go"
    exact i_isiTL (by rw [upd_ne (ne_of_none hp htp)]; exact hp) upd_same (k _ (same_laid htp))
end
abbrev s_is_alphabet : Stmt := top 18
theorem sc_is_alphabet : FnScope ["thing", "letter", "k"] ["thing"] (fnScope s_is_alphabet) := ⟨rfl, rfl, rfl, by decide +kernel, rfl, by decide +kernel, by decide +kernel⟩
def sp_is_alphabet : Sp := fun vs H Q _ => ∃ (al : List Nat), vs = [.str (SX.S al)] ∧ AlOk al ∧ ∀ H', Same H H' → Q (.bl true) H'
section
variable {P : Program} {w : World} {K : PySem.W.Frag} {mg : Str → Option Value} {base : Heap} {C : Addr} {r : Er}
set_option maxHeartbeats 4000000 in
theorem ok_is_alphabet {f : Addr} {fd : FuncData} (F : Def K mg "is_alphabet" s_is_alphabet f fd) (T : Txt K mg C r) (b : Binds K fd ["thing"] []) : Cal P w K mg base 1 "is_alphabet" (sp_is_alphabet) [] := by
  refine cal0 F b .nil sc_is_alphabet (fun vs H Q E h => ?_) (fun cdv A outer s H vs Q E hr h => ?_)
  · obtain ⟨_, rfl, _⟩ := h
    rfl
  · obtain ⟨al, rfl, ha, k⟩ := h
    refine ⟨_, (pss_cons (ps_if (PW.pt (pw_or (pt_not (pt_val (pe_callB (isiK K rfl) (by rfl) T.b_isinstance (by decide +kernel) (pa_cons (pv 0) (pa_cons (pe_bltn (v := .ty "str") (u := .type "str") (by rfl) T.b_str (by decide +kernel) rfl) pa_nil))))) (pw_or1 (pt_not (pt_chain op_le op_le pe_int (pe_callB (lenK K rfl) (by rfl) T.b_len (by decide +kernel) (pa_cons (pv 0) pa_nil)) pe_int))))) (pss_one (ps_ret pe_bl)) pss_nil)
        (pss_cons (ps_if (pt_val (pe_callB (anyK K rfl rfl) (by rfl) T.b_any (by decide +kernel) (pa_cons (pe_lc (own := [("letter", 1)]) rfl sc_is_alphabet.nd (pi_str (pv 0)) (blkOk_by (by kernel_rfl)) (fun _ _ _ _ _ => (pg_name (i := 1) sc_is_alphabet.nd rfl (by first | exact Or.inl rfl | exact Or.inr rfl))) (fun _ _ _ _ _ => pts_nil) (fun _ _ _ _ _ => (pe_cmpR op_notInSg (pv 1) (pe_gc rfl T.c_SMALL) rfl))) pa_nil))) (pss_one (ps_ret pe_bl)) pss_nil)
        (pss_one (ps_ret (pe_callB (allK K rfl rfl) (by rfl) T.b_all (by decide +kernel) (pa_cons (pe_lc (own := [("k", 2)]) rfl sc_is_alphabet.nd (pi_range1 (by rfl) T.b_range (pa_cons (pe_op op_sub (pe_callB (lenK K rfl) (by rfl) T.b_len (by decide +kernel) (pa_cons (pv 0) pa_nil)) pe_int) pa_nil)) (blkOk_by (by kernel_rfl)) (fun _ _ _ _ _ => (pg_name (i := 2) sc_is_alphabet.nd rfl (by first | exact Or.inl rfl | exact Or.inr rfl))) (fun _ _ _ _ _ => pts_nil) (fun _ _ _ _ _ => (pe_cmpR op_lt_str (pe_ix (ixK K rfl) (pv 0) (pv 2) (fun _ _ => rfl)) (pe_ix (ixK K rfl) (pv 0) (pe_op op_add (pv 2) pe_int) (fun _ _ => rfl)) (nomark _)))) pa_nil)))))), ?_⟩
    walk_at "go"
    refine i_isi (.base (.str _)) (r := true) (by decide +kernel) ?_
    walk_at "go"
    have hl : (SX.S al).length = al.length := SX.S_len al
    have h1 := ha.pos
    have h3 := ha.le
    have hcs : (SX.S al).cps.size = al.length := hl
    refine i_lenS (szl (by omega)) ?_
    walk_at "go"
    refine ite_dt (by omega) ?_
    walk_at "go"
    refine ite_ndf (by omega) ?_
    walk_at "go"
    intro D hD
    refine str_lc (fun i H' => i ≤ al.length ∧ H' = upd H D (.lst (List.replicate i (.bl false)))) ⟨Nat.zero_le _, rfl⟩ (fun i c H' hc p => ?_) (fun H' p => ?_)
    · obtain ⟨hi, rfl⟩ := p
      have hm : c ∈ al := by
        have z : al.toArray[i]? = some c := hc
        rw [List.getElem?_toArray] at z
        exact List.mem_of_getElem? z
      have hi' : i < al.length := by
        have z : al.toArray[i]? = some c := hc
        rw [List.getElem?_toArray] at z
        exact (List.getElem?_eq_some_iff.mp z).1
      walk_at "go"
      walk_at "go"
      rw [decide_eq_true (show c ∈ SMALL.cps.toList from small_mem (ha.small c hm))]
      exact ⟨_, upd_same, szlt (by rw [List.length_replicate]; omega), hi', upd_lst (rep_snoc i (V.bl false))⟩
    · obtain ⟨_, rfl⟩ := p
      walk_at "go"
      rw [hcs]
      refine i_any (bs := List.replicate al.length false) (r := false) (by rw [upd_same, map_rep]) (any_rep _) ?_
      walk_at "go"
      refine i_lenS (szl (by omega)) ?_
      walk_at "go"
      refine ⟨by omega, by omega, fun D2 hD2 => ?_⟩
      refine rng0_lc (fun i H' => i ≤ al.length ∧ H' = upd (upd H D (.lst (List.replicate al.length (.bl false)))) D2 (.lst (List.replicate i (.bl true)))) ⟨Nat.zero_le _, rfl⟩ (fun i H' hi p => ?_) (fun H' p => ?_)
      · obtain ⟨_, rfl⟩ := p
        have hi2 : i + 1 < al.length := by omega
        walk_at "go"
        have e1 : atI (SX.S al).cps.toList (i : Int) = some (al[i]'(by omega)) := S_at (List.getElem?_eq_getElem _)
        have e2 : atI (SX.S al).cps.toList ((i : Int) + 1) = some (al[i + 1]'hi2) := S_at (i := i + 1) (List.getElem?_eq_getElem _)
        refine i_ixS (szl (by omega)) e1 ?_
        walk_at "go"
        refine i_ixS (szl (by omega)) e2 ?_
        have e3 : al[i]'(by omega) < al[i + 1]'hi2 := List.pairwise_iff_getElem.mp ha.inc i (i + 1) _ _ (by omega)
        refine ⟨_, _, rfl, rfl, ?_⟩
        refine ⟨_, upd_same, szlt (by rw [List.length_replicate]; omega), Nat.le_of_lt hi2, upd_lst ?_⟩
        rw [decide_eq_true (show _ < _ from List.Lex.rel e3)]
        exact rep_snoc i (V.bl true)
      · obtain ⟨_, rfl⟩ := p
        walk_at "go"
        exact i_all (bs := List.replicate _ true) (by rw [upd_same, map_rep]) (all_rep _) (k _ ((same_laid hD).trans (same_laid hD2)))
end
abbrev s_check_alphabet : Stmt := top 19
theorem sc_check_alphabet : FnScope ["thing"] ["thing"] (fnScope s_check_alphabet) := ⟨rfl, rfl, rfl, by decide +kernel, rfl, by decide +kernel, by decide +kernel⟩
def sp_check_alphabet : Sp := fun vs H Q _ => ∃ (al : List Nat), vs = [.str (SX.S al)] ∧ AlOk al ∧ ∀ H', Same H H' → Q .non H'
section
variable {P : Program} {w : World} {K : PySem.W.Frag} {mg : Str → Option Value} {base : Heap} {C : Addr} {r : Er}
set_option maxHeartbeats 4000000 in
theorem ok_check_alphabet {f : Addr} {fd : FuncData} (F : Def K mg "check_alphabet" s_check_alphabet f fd) (T : Txt K mg C r) (b : Binds K fd ["thing"] []) (c_is_alphabet : Cal P w K mg base 1 "is_alphabet" sp_is_alphabet []) : Cal P w K mg base 2 "check_alphabet" (sp_check_alphabet) [] := by
  refine cal0 F b .nil sc_check_alphabet (fun vs H Q E h => ?_) (fun cdv A outer s H vs Q E hr h => ?_)
  · obtain ⟨_, rfl, _⟩ := h
    rfl
  · obtain ⟨al, rfl, ha, k⟩ := h
    refine ⟨_, (pss_one (ps_if (pt_not (pt_val (pe_c c_is_alphabet hr (by decide) rfl (pa_cons (pv 0) pa_nil)))) (pss_one ps_never) pss_nil)), ?_⟩
    walk_at "go"
    refine ⟨al, rfl, ha, fun H' s => ?_⟩
    walk_at "go"
    exact k H' s
end
abbrev s_reached_rooms : Stmt := top 25
theorem sc_reached_rooms : FnScope ["moves", "found", "order", "at", "target"] ["moves"] (fnScope s_reached_rooms) := ⟨rfl, rfl, rfl, by decide +kernel, rfl, by decide +kernel, by decide +kernel⟩
def sp_reached_rooms : Sp := fun vs H Q _ => ∃ (Z : AS) (p : Addr) (rs : Rws) (m : Nat), vs = [.ref p] ∧ Rows Z H p rs ∧ WFB m rs ∧ ∀ k a H', (scanAt rs k).length = k → H a = none → Same H H' → H' a = some (.lst ((scanAt rs k).map vn)) → Q (.ref a) H'
/-- the heap with the two that are filled -/
def hfo (H : Hp) (F O : Addr) (o : List Nat) : Hp := upd (upd H F (.dK (mapK o fun _ => .bl true))) O (.lst (o.map vn))
theorem hfo_F {H : Hp} {F O : Addr} {o : List Nat} (h : F ≠ O) : hfo H F O o F = some (.dK (mapK o fun _ => .bl true)) := by
  unfold hfo
  rw [upd_ne h, upd_same]
theorem hfo_O {H : Hp} {F O : Addr} {o : List Nat} : hfo H F O o O = some (.lst (o.map vn)) := upd_same
theorem hfo_same {H : Hp} {F O : Addr} {o : List Nat} (hF : H F = none) (hO : H O = none) : Same H (hfo H F O o) := fun b u e => by
  unfold hfo
  rw [upd_ne (ne_of_none e hO), upd_ne (ne_of_none e hF)]
  exact e
theorem hfo_put {H : Hp} {F O : Addr} {o : List Nat} {t : Nat} (h : F ≠ O) (ht : t ∉ o) : upd (upd (hfo H F O o) F (.dK (putK (mapK o fun _ => .bl true) (Sum.inl (t : Int)) (.bl true)))) O (.lst (o.map vn ++ [V.int (t : Int)])) = hfo H F O (o ++ [t]) := by
  rw [putK_mapK ht rfl]
  unfold hfo
  rw [upd2 h, List.map_append]
  rfl
section
variable {P : Program} {w : World} {K : PySem.W.Frag} {mg : Str → Option Value} {base : Heap} {C : Addr} {r : Er}
set_option maxHeartbeats 4000000 in
theorem ok_reached_rooms {f : Addr} {fd : FuncData} (F : Def K mg "reached_rooms" s_reached_rooms f fd) (T : Txt K mg C r) (b : Binds K fd ["moves"] []) : Cal P w K mg base 1 "reached_rooms" (sp_reached_rooms) [] := by
  refine cal0 F b .nil sc_reached_rooms (fun vs H Q E h => ?_) (fun cdv A outer s H vs Q E hr h => ?_)
  · obtain ⟨_, _, _, _, rfl, _⟩ := h
    rfl
  · obtain ⟨Z, p, rs, m, rfl, hp, hw, k⟩ := h
    refine ⟨_, (pss_cons (ps_set (i := 1) sc_reached_rooms.nd rfl (by first | exact Or.inl rfl | exact Or.inr rfl) (pe_disp (pps_cons pe_int pe_bl pps_nil) (by rfl) (by rfl) (fun z => by cases z) (by decide)))
        (pss_cons (ps_set (i := 2) sc_reached_rooms.nd rfl (by first | exact Or.inl rfl | exact Or.inr rfl) (pe_lst (pa_cons pe_int pa_nil)))
        (pss_cons (ps_set (i := 3) sc_reached_rooms.nd rfl (by first | exact Or.inl rfl | exact Or.inr rfl) pe_int)
        (pss_cons (ps_while PassesOwn.never (pt_cmpR op_lt (pv 3) (pe_callB (lenK K rfl) (by rfl) T.b_len (by decide +kernel) (pa_cons (pv 2) pa_nil)) (nomark _)) (pss_cons (ps_for PassesOwn.never rfl (seqK K rfl (pe_ix (ixK K rfl) (pv 0) (pe_ix (ixK K rfl) (pv 2) (pv 3) (fun _ _ => rfl)) (fun _ _ => rfl))) (pg_name (i := 4) sc_reached_rooms.nd rfl (by first | exact Or.inl rfl | exact Or.inr rfl))
        (pss_one (ps_if (pt_cmp (pc_dnotin (hu_of hr) (pv 4) (pv 1))) (pss_cons (ps_dput (hu_of hr) (pv 1) (pv 4) pe_bl rfl)
        (pss_one (ps_expr (bmK K rfl (pe_bm PySem.F.plainAttrs_list PySem.F.slot_list_append PySem.F.type_list_append mt_append (pv 2) (pa_cons (pv 4) pa_nil)))))) pss_nil)))
        (pss_one (ps_set (i := 3) sc_reached_rooms.nd rfl (by first | exact Or.inl rfl | exact Or.inr rfl) (pe_op op_add (pv 3) pe_int)))))
        (pss_one (ps_ret (pv 2))))))), ?_⟩
    walk_at "go"
    intro F hF
    walk_at "go"
    refine ⟨by decide, fun O hO => ?_⟩
    have hFO : F ≠ O := ne_of_none upd_same hO
    have hO' : H O = none := by
      rw [upd_ne hFO.symm] at hO
      exact hO
    walk_at "go"
    have e0 : upd (upd H F (.dK [(Sum.inl 0, .bl true)])) O (.lst [.int 0]) = hfo H F O (scanAt rs 0) := rfl
    rw [e0]
    have hn : rs.length ≤ 4000 := hw.le
    refine i_while 4001 (fun k σ H' => ∃ x, σ = [some (.ref p), some (.ref F), some (.ref O), some (vn k), x] ∧ k ≤ (scanAt rs k).length ∧ H' = hfo H F O (scanAt rs k)) ⟨none, rfl, Nat.zero_le _, rfl⟩ (fun i σ H' hp' => ?_)
    obtain ⟨x, rfl, hi, rfl⟩ := hp'
    have hl := hw.scan_len i
    walk_at "go"
    rw [List.length_map]
    refine iteD (fun hx => ?_) (fun hx => ?_)
    · have hx' : i < (scanAt rs i).length := by
        have : (i : Int) < ((scanAt rs i).length : Int) := hx
        omega
      refine whT (by omega) ?_
      obtain ⟨r, hr1⟩ : ∃ r, (scanAt rs i)[i]? = some r := ⟨_, List.getElem?_eq_getElem hx'⟩
      have hr2 : r < rs.length := hw.scan_lt i r (List.mem_of_getElem? hr1)
      have hrow : (scanAt rs (i + 1)) = addsN (scanAt rs i) (row rs r) := by
        show addsN (scanAt rs i) (row rs ((scanAt rs i).getD i 0)) = _
        rw [List.getD_eq_getElem?_getD, hr1]
        rfl
      obtain ⟨t, vs, a, ha, hvl, hva, hia, ti, hi2⟩ := hp.at hr2
      have hs : ∀ o, Same H (hfo H F O o) := fun o => hfo_same hF hO'
      walk_at "go"
      refine i_ixL hfo_O (vn_at hr1) ?_
      walk_at "go"
      refine i_ixQ (hs _ _ _ ha) hva ?_
      refine seq_for (hs _ _ _ hi2) (fun j σ H' => ∃ x, σ = [some (.ref p), some (.ref F), some (.ref O), some (vn i), x] ∧ H' = hfo H F O (addsN (scanAt rs i) ((row rs r).take j))) ⟨x, rfl, by simp [addsN_nil]⟩ (fun j σ H' _ ⟨_, _, e⟩ => by rw [e]; exact hs _ _ _ hi2) (fun j v σ H' hv hp' => ?_) (fun σ H' hp' => ?_)
      · obtain ⟨y, rfl, rfl⟩ := hp'
        obtain ⟨u, hu, rfl⟩ := at_map hv
        have htk : (row rs r).take (j + 1) = (row rs r).take j ++ [u] := take_at hu
        have hlen : (addsN (scanAt rs i) ((row rs r).take j)).length ≤ 4000 := by
          refine Nat.le_trans (nodup_le (nd_addsN (scan_nd rs i)) fun z hz => ?_) hn
          rcases mem_addsN.mp hz with hz | hz
          · exact hw.scan_lt i z hz
          · exact hw.row_lt hr2 (List.mem_of_mem_take hz)
        walk_at "go"
        refine r_dnotin (hfo_F hFO) ?_
        walk_at "go"
        by_cases hin : u ∈ addsN (scanAt rs i) ((row rs r).take j)
        · rw [valV_mapK_in hin]
          refine iteNT ?_
          walk_at "go"
          exact ⟨_, rfl, by rw [htk, addsN_snoc, addN, if_pos hin]⟩
        · rw [valV_mapK_no hin]
          refine iteNF ?_
          walk_at "go"
          refine r_dput (hfo_F hFO) (by rw [mapK_len]; omega) ?_
          walk_at "go"
          refine i_append (xs := (addsN (scanAt rs i) ((row rs r).take j)).map vn) (by rw [upd_ne hFO.symm]; exact hfo_O) (by rw [List.length_map]; omega) ?_
          rw [hfo_put hFO hin]
          walk_at "go"
          exact ⟨_, rfl, by rw [htk, addsN_snoc, addN, if_neg hin]⟩
      · obtain ⟨y, rfl, rfl⟩ := hp'
        walk_at "go"
        refine ⟨_, rfl, ?_, ?_⟩
        · obtain ⟨q, e⟩ := addsN_pre (scanAt rs i) (row rs r)
          rw [hrow, e, List.length_append]
          omega
        · rw [hrow, List.length_map, List.take_length]
    · walk_at "go"
      have hx' : i = (scanAt rs i).length := by
        have : ¬ (i : Int) < ((scanAt rs i).length : Int) := hx
        omega
      exact k i O _ hx'.symm hO' (hfo_same hF hO') hfo_O
end
abbrev s_joint_table : Stmt := top 28
theorem sc_joint_table : FnScope ["one", "other", "numbers", "order", "moves", "at", "first", "second", "row", "k", "target", "pair"] ["one", "other"] (fnScope s_joint_table) := ⟨rfl, rfl, rfl, by decide +kernel, rfl, by decide +kernel, by decide +kernel⟩
def sp_joint_table : Sp := fun vs H Q _ => ∃ (Z : AS) (p q : Addr) (A B : Rws) (m : Nat), vs = [.ref p, .ref q] ∧ Rows Z H p A ∧ Rows Z H q B ∧ WF m A ∧ WF m B ∧
  ∀ k a O M bs H', Done (jn m A B) (0, 0) k → Same H H' → H a = none → H' a = some (.tup [.ref O, .ref M]) → H' O = some (.lst (bs.map V.ref)) → Prs H' bs (jAt m A B k) → Rows (Old H) H' M (gRows (jn m A B) (jAt m A B k)) → Q (.ref a) H'
section
variable {P : Program} {w : World} {K : PySem.W.Frag} {mg : Str → Option Value} {base : Heap} {C : Addr} {r : Er}
set_option maxHeartbeats 4000000 in
theorem ok_joint_table {f : Addr} {fd : FuncData} (F : Def K mg "joint_table" s_joint_table f fd) (T : Txt K mg C r) (b : Binds K fd ["one", "other"] []) : Cal P w K mg base 1 "joint_table" (sp_joint_table) [] := by
  refine cal0 F b .nil sc_joint_table (fun vs H Q E h => ?_) (fun cdv A outer s H vs Q E hr h => ?_)
  · obtain ⟨_, _, _, _, _, _, rfl, _⟩ := h
    rfl
  · obtain ⟨Z, p, q, A, B, m, rfl, hp, hq, hwA, hwB, k⟩ := h
    refine ⟨_, (pss_cons (ps_set (i := 2) sc_joint_table.nd rfl (by first | exact Or.inl rfl | exact Or.inr rfl) (pe_disp1N hr.units (pe_tup (pa_cons pe_int (pa_cons pe_int pa_nil))) pe_int))
        (pss_cons (ps_set (i := 3) sc_joint_table.nd rfl (by first | exact Or.inl rfl | exact Or.inr rfl) (pe_lst (pa_cons (pe_tup (pa_cons pe_int (pa_cons pe_int pa_nil))) pa_nil)))
        (pss_cons (ps_set (i := 4) sc_joint_table.nd rfl (by first | exact Or.inl rfl | exact Or.inr rfl) (pe_lst pa_nil))
        (pss_cons (ps_set (i := 5) sc_joint_table.nd rfl (by first | exact Or.inl rfl | exact Or.inr rfl) pe_int)
        (pss_cons (ps_while PassesOwn.never (pt_cmpR op_lt (pv 5) (pe_callB (lenK K rfl) (by rfl) T.b_len (by decide +kernel) (pa_cons (pv 3) pa_nil)) (nomark _)) (pss_cons (ps_asg (pe_ix (ixK K rfl) (pv 3) (pv 5) (fun _ _ => rfl)) (pg_tup rfl (pgs_cons (pg_name (i := 6) sc_joint_table.nd rfl (by first | exact Or.inl rfl | exact Or.inr rfl)) (pgs_cons (pg_name (i := 7) sc_joint_table.nd rfl (by first | exact Or.inl rfl | exact Or.inr rfl)) pgs_nil))))
        (pss_cons (ps_set (i := 8) sc_joint_table.nd rfl (by first | exact Or.inl rfl | exact Or.inr rfl) (pe_lst pa_nil))
        (pss_cons (ps_for PassesOwn.never rfl (enumRK K rfl (by rfl) T.b_enumerate (pa_cons (pe_ix (ixK K rfl) (pv 0) (pv 6) (fun _ _ => rfl)) pa_nil)) (pg_tup rfl (pgs_cons (pg_name (i := 9) sc_joint_table.nd rfl (by first | exact Or.inl rfl | exact Or.inr rfl)) (pgs_cons (pg_name (i := 10) sc_joint_table.nd rfl (by first | exact Or.inl rfl | exact Or.inr rfl)) pgs_nil)))
        (pss_cons (ps_set (i := 11) sc_joint_table.nd rfl (by first | exact Or.inl rfl | exact Or.inr rfl) (pe_tup (pa_cons (pv 10) (pa_cons (pe_ix (ixK K rfl) (pe_ix (ixK K rfl) (pv 1) (pv 7) (fun _ _ => rfl)) (pv 9) (fun _ _ => rfl)) pa_nil))))
        (C8.pss_cut (ps_if (pt_cmp (pc_nnotin hr.units (pv 11) (pv 2))) (pss_cons (ps_nput hr.units (pv 2) (pv 11) (pe_callB (lenK K rfl) (by rfl) T.b_len (by decide +kernel) (pa_cons (pv 3) pa_nil)) rfl)
        (pss_one (ps_expr (bmK K rfl (pe_bm PySem.F.plainAttrs_list PySem.F.slot_list_append PySem.F.type_list_append mt_append (pv 3) (pa_cons (pv 11) pa_nil)))))) pss_nil)
        (pss_one (ps_expr (bmK K rfl (pe_bm PySem.F.plainAttrs_list PySem.F.slot_list_append PySem.F.type_list_append mt_append (pv 8) (pa_cons (pe_nget hr.units (pv 2) (pv 11) (fun _ _ => rfl)) pa_nil))))))))
        (pss_cons (ps_expr (bmK K rfl (pe_bm PySem.F.plainAttrs_list PySem.F.slot_list_append PySem.F.type_list_append mt_append (pv 4) (pa_cons (pe_callTy (tupleK K rfl) (by rfl) T.b_tuple (by decide +kernel) (pa_cons (pv 8) pa_nil)) pa_nil))))
        (pss_one (ps_set (i := 5) sc_joint_table.nd rfl (by first | exact Or.inl rfl | exact Or.inr rfl) (pe_op op_add (pv 5) pe_int))))))))
        (pss_one (ps_ret (pe_tup (pa_cons (pv 3) (pa_cons (pv 4) pa_nil)))))))))), ?_⟩
    walk_at "go"
    have hleA := hwA.le
    have hleB := hwB.le
    have hm3 := hwA.m3
    have hnm : A.length * B.length ≤ 3600 := Nat.mul_le_mul hleA hleB
    refine RDispN fun N oN hN nN => ?_
    walk_at "go"
    refine ⟨sz2, fun T0 hT0 => ?_⟩
    have hTN : T0 ≠ N := nN.old.elim fun o e => (ne_of_none e hT0).symm
    have hT02 : H T0 = none := by
      rw [upd_ne hTN] at hT0
      exact hT0
    walk_at "go"
    have n1 := nN.same (same_laid (o := .tup [.int 0, .int 0]) hT0)
    refine ⟨pk (0, 0), keyP (a := 0) (b := 0) upd_same, n1, fun o' n2 => ?_⟩
    have s3 : Same H (upd (upd (upd H N oN) T0 (.tup [.int 0, .int 0])) N o') := Same.put (Same.put (same_laid hN) hT02) hN
    generalize upd (upd (upd H N oN) T0 (.tup [.int 0, .int 0])) N o' = H3 at *
    walk_at "go"
    refine ⟨sz2, fun T1 hT1 => ?_⟩
    walk_at "go"
    refine ⟨sz1, fun O hO => ?_⟩
    walk_at "go"
    refine ⟨szl (by show 0 ≤ 16777216; decide), fun M hM => ?_⟩
    walk_at "go"
    have hO3 : H3 O = none := same_free (same_laid hT1) hO
    have hOM : O ≠ M := ne_of_none upd_same hM
    have s34 : Same H3 (upd (upd (upd H3 T1 (.tup [.int 0, .int 0])) O (.lst [.ref T1])) M (.lst [])) := ((same_laid hT1).trans (same_laid hO)).trans (same_laid hM)
    have hM3 : H3 M = none := same_free ((same_laid hT1).trans (same_laid hO)) hM
    have hOH : H O = none := same_free s3 hO3
    have hMH : H M = none := same_free s3 hM3
    have n4 := n2.same s34
    have hO4 : (upd (upd (upd H3 T1 (.tup [.int 0, .int 0])) O (.lst [.ref T1])) M (.lst [])) O = some (.lst ([T1].map V.ref)) := by rw [upd_ne hOM, upd_same]; rfl
    have hM4 : (upd (upd (upd H3 T1 (.tup [.int 0, .int 0])) O (.lst [.ref T1])) M (.lst [])) M = some (.lst (([] : List Addr).map V.ref)) := upd_same
    have hPr4 : Prs (upd (upd (upd H3 T1 (.tup [.int 0, .int 0])) O (.lst [.ref T1])) M (.lst [])) [T1] [(0, 0)] := .cons (by rw [upd_ne (ne_of_none (by rw [upd_ne (ne_of_none upd_same hO), upd_same]) hM), upd_ne (ne_of_none upd_same hO), upd_same]; rfl) .nil
    have s04 := s3.trans s34
    generalize upd (upd (upd H3 T1 (.tup [.int 0, .int 0])) O (.lst [.ref T1])) M (.lst []) = H4 at *
    refine i_while 3601 (fun k σ H5 => ∃ (x6 x7 x8 x9 x10 x11 : Option V) (bs ms : List Addr), σ = [some (.ref p), some (.ref q), some (.ref N), some (.ref O), some (.ref M), some (vn k), x6, x7, x8, x9, x10, x11] ∧ Same H H5 ∧ NDict P w H5 N (mapN ((jAt m A B k).map pk) (numD ((jAt m A B k).map pk))) ∧ H5 O = some (.lst (bs.map V.ref)) ∧ Prs H5 bs (jAt m A B k) ∧ H5 M = some (.lst (ms.map V.ref)) ∧
        Paired (fun a r => IntsT (Old H) H5 a r) ms (((jAt m A B k).take k).map fun x => (jn m A B x).map (pl (jAt m A B k))) ∧ ∀ q, q < k → q < (jAt m A B q).length)
      ⟨none, none, none, none, none, none, [T1], [], rfl, s04, n4, hO4, hPr4, hM4, .nil, fun q z => absurd z (Nat.not_lt_zero q)⟩ (fun i σ H5 hz => ?_)
    obtain ⟨x6, x7, x8, x9, x10, x11, bs, ms, rfl, s5, n5, hO5, hPr5, hM5, hms5, hok⟩ := hz
    have hbl := hPr5.length
    have hplen : (jAt m A B i).length ≤ A.length * B.length := pairs_len (g_nd (nx := jn m A B) (s := (0, 0)) i) (j_lt hwA.b hwB.b i)
    have hil : i ≤ (jAt m A B i).length := by
      cases i with
      | zero => exact Nat.zero_le _
      | succ j =>
        have h1 := hok j (Nat.lt_succ_self j)
        obtain ⟨mm, e⟩ := g_pre (nx := jn m A B) (s := (0, 0)) j
        rw [show jAt m A B (j + 1) = _ from e, List.length_append]
        show j + 1 ≤ _
        have h2 : j < (gAt (jn m A B) (0, 0) j).length := h1
        omega
    walk_at "go"
    rw [List.length_map, hbl]
    refine iteD (fun hx => ?_) (fun hx => ?_)
    · have hx' : i < (jAt m A B i).length := by omega
      refine whT (by omega) ?_
      obtain ⟨pr, hpr1⟩ : ∃ pr, (jAt m A B i)[i]? = some pr := ⟨_, List.getElem?_eq_getElem hx'⟩
      obtain ⟨hpa, hpb⟩ := j_lt hwA.b hwB.b i pr (List.mem_of_getElem? hpr1)
      have hnext : jAt m A B (i + 1) = addsN (jAt m A B i) (jn m A B pr) := by
        show addsN (gAt (jn m A B) (0, 0) i) (jn m A B ((gAt (jn m A B) (0, 0) i).getD i (0, 0))) = _
        rw [List.getD_eq_getElem?_getD, show (gAt (jn m A B) (0, 0) i)[i]? = some pr from hpr1]
        rfl
      obtain ⟨b, hb1, hb2⟩ := Paired.at1 hPr5 hpr1
      walk_at "go"
      refine i_ixL hO5 (v := .ref b) (atI_nat (map_at hb1)) ?_
      walk_at "go"
      refine ⟨szl (by show 0 ≤ 16777216; decide), fun R hR => ?_⟩
      have hRH : H R = none := same_free s5 hR
      have sR : Same H5 (upd H5 R (.lst [])) := same_laid hR
      have n6 := n5.same sR
      have hO6 := sR _ _ hO5
      have hM6 := sR _ _ hM5
      have hPr6 := hPr5.same sR
      have hms6 : Paired (fun a r => IntsT (Old H) (upd H5 R (.lst [])) a r) ms (((jAt m A B i).take i).map fun x => (jn m A B x).map (pl (jAt m A B i))) := Paired.mapP hms5 fun _ _ z => z.same sR
      have s6 := s5.trans sR
      have hR6 : (upd H5 R (.lst [])) R = some (.lst (([] : List Nat).map vn)) := upd_same
      have hRO : R ≠ O := (ne_of_none hO5 hR).symm
      have hRM : R ≠ M := (ne_of_none hM5 hR).symm
      have hNR : N ≠ R := n5.old.elim fun o e => ne_of_none e hR
      have hNO : N ≠ O := n5.notlst hO5
      have hNM : N ≠ M := n5.notlst hM5
      generalize upd H5 R (.lst []) = H6 at *
      walk_at "go"
      obtain ⟨tr, vr, ar, hr1, hr2, hr3, hr4, tr5, hr6⟩ := hp.at hpa
      obtain ⟨tr', vr', ar', hr1', hr2', hr3', hr4', tr5', hr6'⟩ := hq.at hpb
      have hwr := hwA.row_len hpa
      refine i_ixQ (s6 _ _ hr1) hr3 ?_
      refine enumR_for (s6 _ _ hr6) (fun j σ H7 => ∃ (x9 x10 x11 : Option V) (bs : List Addr), σ = [some (.ref p), some (.ref q), some (.ref N), some (.ref O), some (.ref M), some (vn i), some (vn pr.1), some (vn pr.2), some (.ref R), x9, x10, x11] ∧ Same H H7 ∧ NDict P w H7 N (mapN ((addsN (jAt m A B i) ((jn m A B pr).take j)).map pk) (numD ((addsN (jAt m A B i) ((jn m A B pr).take j)).map pk))) ∧
          H7 O = some (.lst (bs.map V.ref)) ∧ Prs H7 bs (addsN (jAt m A B i) ((jn m A B pr).take j)) ∧ H7 M = some (.lst (ms.map V.ref)) ∧ Paired (fun a r => IntsT (Old H) H7 a r) ms (((jAt m A B i).take i).map fun x => (jn m A B x).map (pl (jAt m A B i))) ∧
          H7 R = some (.lst ((((jn m A B pr).take j).map (pl (addsN (jAt m A B i) ((jn m A B pr).take j)))).map vn)))
        ⟨x9, x10, x11, bs, rfl, s6, by simpa [addsN_nil] using n6, hO6, by simpa [addsN_nil] using hPr6, hM6, hms6, by simpa using hR6⟩ (fun j σ H7 _ ⟨_, _, _, _, _, s7, _⟩ => s7 _ _ hr6) (fun j v TT σ H7 hv hz hTT => ?_) (fun σ H7 hz => ?_)
      · obtain ⟨y9, y10, y11, bs, rfl, s7, n7, hO7, hPr7, hM7, hms7, hR7⟩ := hz
        obtain ⟨u, hu, rfl⟩ := at_map hv
        have hj : j < m := by
          have := (List.getElem?_eq_some_iff.mp hu).1
          omega
        have hu2 : u = stp A pr.1 j := by
          have := hwA.stp_at hpa hj
          rw [hu] at this
          exact Option.some.inj this
        subst hu2
        have hnj : (jn m A B pr)[j]? = some (stp A pr.1 j, stp B pr.2 j) := jn_at hj
        have htk : (jn m A B pr).take (j + 1) = (jn m A B pr).take j ++ [(stp A pr.1 j, stp B pr.2 j)] := take_at hnj
        have hbl7 := hPr7.length
        have hna := hwA.stp_lt hpa hj
        have hnb := hwB.stp_lt hpb hj
        have hol : ∀ x ∈ addsN (jAt m A B i) ((jn m A B pr).take j), x.1 < A.length ∧ x.2 < B.length := fun x hx => by
          refine j_lt hwA.b hwB.b (i + 1) x ?_
          rw [hnext, mem_addsN]
          exact (mem_addsN.mp hx).imp id fun z => List.mem_of_mem_take z
        have hplen7 := pairs_len (nd_addsN (ts := (jn m A B pr).take j) (g_nd (nx := jn m A B) (s := (0, 0)) i)) hol
        have sT : Same H7 (upd H7 TT (.tup [.int (j : Nat), vn (stp A pr.1 j)])) := same_laid hTT
        have n8 := n7.same sT
        have hO8 := sT _ _ hO7
        have hM8 := sT _ _ hM7
        have hR8 := sT _ _ hR7
        have hPr8 := hPr7.same sT
        have hms8 : Paired (fun a r => IntsT (Old H) (upd H7 TT (.tup [.int (j : Nat), vn (stp A pr.1 j)])) a r) ms (((jAt m A B i).take i).map fun x => (jn m A B x).map (pl (jAt m A B i))) := Paired.mapP hms7 fun _ _ z => z.same sT
        have s8 := s7.trans sT
        have hTT8 : (upd H7 TT (.tup [.int (j : Nat), vn (stp A pr.1 j)])) TT = some (.tup [.int (j : Nat), vn (stp A pr.1 j)]) := upd_same
        generalize upd H7 TT (.tup [.int (j : Nat), vn (stp A pr.1 j)]) = H8 at *
        walk_at "go"
        refine i_ixQ (s8 _ _ hr1') hr3' ?_
        walk_at "go"
        refine i_ixQ (s8 _ _ hr6') (vn_at (hwB.stp_at hpb hj)) ?_
        walk_at "go"
        refine ⟨sz2, fun PT hPT => ?_⟩
        walk_at "go"
        generalize hsa : stp A pr.1 j = na at *
        generalize hsb : stp B pr.2 j = nb at *
        have sP : Same H8 (upd H8 PT (.tup [.int (na : Int), .int (nb : Int)])) := same_laid hPT
        have n9 := n8.same sP
        have hO9 := sP _ _ hO8
        have hM9 := sP _ _ hM8
        have hR9 := sP _ _ hR8
        have hPr9 := hPr8.same sP
        have hms9 : Paired (fun a r => IntsT (Old H) (upd H8 PT (.tup [.int (na : Int), .int (nb : Int)])) a r) ms (((jAt m A B i).take i).map fun x => (jn m A B x).map (pl (jAt m A B i))) := Paired.mapP hms8 fun _ _ z => z.same sP
        have s9 := s8.trans sP
        have hT9 : (upd H8 PT (.tup [.int (na : Int), .int (nb : Int)])) PT = some (.tup [.int (na : Int), .int (nb : Int)]) := upd_same
        generalize upd H8 PT (.tup [.int (na : Int), .int (nb : Int)]) = H9 at *
        have ky : KeyAt H9 (pk (na, nb)) (.ref PT) := keyP hT9
        generalize hcur : addsN (jAt m A B i) ((jn m A B pr).take j) = cur at *
        have hcur2 : addsN (jAt m A B i) ((jn m A B pr).take (j + 1)) = addN cur (na, nb) := by rw [htk, addsN_snoc, hcur]
        have htm : ∀ x ∈ (jn m A B pr).take j, x ∈ cur := fun x hx => by rw [← hcur]; exact mem_addsN.mpr (.inr hx)
        refine i_cut (fun σ H10 => ∃ bs, σ = [some (.ref p), some (.ref q), some (.ref N), some (.ref O), some (.ref M), some (vn i), some (vn pr.1), some (vn pr.2), some (.ref R), some (vn j), some (vn na), some (.ref PT)] ∧ Same H H10 ∧ NDict P w H10 N (mapN ((addN cur (na, nb)).map pk) (numD ((addN cur (na, nb)).map pk))) ∧
          H10 O = some (.lst (bs.map V.ref)) ∧ Prs H10 bs (addN cur (na, nb)) ∧ H10 M = some (.lst (ms.map V.ref)) ∧ Paired (fun a r => IntsT (Old H) H10 a r) ms (((jAt m A B i).take i).map fun x => (jn m A B x).map (pl (jAt m A B i))) ∧
          H10 R = some (.lst ((((jn m A B pr).take j).map (pl cur)).map vn)) ∧ KeyAt H10 (pk (na, nb)) (.ref PT)) ?_ (fun σ H10 hz => ?_)
        · walk_at "go"
          refine r_nnotin n9 ky ?_
          walk_at "go"
          by_cases hin : (na, nb) ∈ cur
          · rw [lookN_in (pk_mem.mpr hin)]
            refine iteNT ?_
            walk_at "go"
            have e : addN cur (na, nb) = cur := if_pos hin
            exact ⟨bs, rfl, s9, by rw [e]; exact n9, hO9, by rw [e]; exact hPr9, hM9, hms9, hR9, ky⟩
          · have hnk : pk (na, nb) ∉ cur.map pk := fun z => hin (pk_mem.mp z)
            rw [lookN_no hnk]
            refine iteNF ?_
            walk_at "go"
            rw [List.length_map, hbl7]
            refine r_nput n9 ky (by rw [mapN_len, List.length_map]; omega) (fun o n10 => ?_)
            have e : addN cur (na, nb) = cur ++ [(na, nb)] := if_neg hin
            have n10 : NDict P w (upd H9 N o) N (putN (mapN (cur.map pk) (numD (cur.map pk))) (pk (na, nb)) (vn (cur.map pk).length)) := by
              rw [List.length_map]
              exact n10
            rw [numN_put hnk] at n10
            have hPTN : PT ≠ N := fun e => n9.nottup _ (by rw [← e]; exact hT9)
            have hPTO : PT ≠ O := fun e => by rw [e, hO9] at hT9; cases hT9
            walk_at "go"
            refine i_append (xs := bs.map V.ref) (by rw [upd_ne hNO.symm]; exact hO9) (by rw [List.length_map, hbl7]; omega) ?_
            walk_at "go"
            have hOt : ∀ vs, (upd H9 N o) O ≠ some (.tup vs) := fun vs => by
              rw [upd_ne hNO.symm, hO9]
              intro z
              cases z
            refine ⟨bs ++ [PT], rfl, Same.put (Same.put s9 hN) hOH, ?_, by rw [upd_same, List.map_append]; rfl, ?_, ?_, ?_, ?_, ?_⟩
            · rw [e, List.map_append]
              exact n10.upd hNO hOt
            · rw [e]
              refine U.Paired.snoc ((hPr9.upd n9.nottup).upd hOt) ?_
              rw [upd_ne hPTO, upd_ne hPTN]
              exact hT9
            · rw [upd_ne hOM.symm, upd_ne hNM.symm]
              exact hM9
            · refine Paired.mapP hms9 fun a r z => ⟨z.1, ?_⟩
              have h1 : a ≠ O := fun e => by
                have z2 := z.2
                rw [e, hO9] at z2
                cases z2
              have h2 : a ≠ N := fun e => n9.nottup _ (by rw [← e]; exact z.2)
              rw [upd_ne h1, upd_ne h2]
              exact z.2
            · rw [upd_ne hRO, upd_ne hNR.symm]
              exact hR9
            · exact keyP (by rw [upd_ne hPTO, upd_ne hPTN]; exact hT9)
        · obtain ⟨bs, rfl, s10, n10, hO10, hPr10, hM10, hms10, hR10, ky10⟩ := hz
          walk_at "go"
          have hmem : (na, nb) ∈ addN cur (na, nb) := mem_addN.mpr (.inr rfl)
          refine r_nget n10 ky10 (lookN_in (pk_mem.mpr hmem)) ?_
          walk_at "go"
          have hvv : numD ((addN cur (na, nb)).map pk) (pk (na, nb)) = vn (pl (addN cur (na, nb)) (na, nb)) := by
            unfold numD
            rw [pl_map (fun _ _ z => pk_inj z)]
          rw [hvv]
          refine i_append hR10 (by rw [List.length_map, List.length_map, List.length_take]; omega) ?_
          walk_at "go"
          have hNR10 : N ≠ R := hNR
          have hRt : ∀ vs, H10 R ≠ some (.tup vs) := fun vs => by
            rw [hR10]
            intro z
            cases z
          refine ⟨_, _, _, bs, rfl, Same.put s10 hRH, ?_, by rw [upd_ne hRO.symm]; exact hO10, ?_, by rw [upd_ne hRM.symm]; exact hM10, ?_, ?_⟩
          · rw [hcur2]
            exact n10.upd hNR10 hRt
          · rw [hcur2]
            exact hPr10.upd hRt
          · refine Paired.mapP hms10 fun a r z => ⟨z.1, ?_⟩
            rw [upd_ne (fun e => hRt _ (by rw [← e]; exact z.2))]
            exact z.2
          · rw [upd_same, hcur2, htk, List.map_append, List.map_append]
            have e : ((jn m A B pr).take j).map (pl (addN cur (na, nb))) = ((jn m A B pr).take j).map (pl cur) := List.map_congr_left fun x hx => pl_addN (htm x hx)
            rw [e]
            rfl
      · obtain ⟨y9, y10, y11, bs, rfl, s7, n7, hO7, hPr7, hM7, hms7, hR7⟩ := hz
        have el : (List.map vn (row A pr.1)).length = (jn m A B pr).length := by rw [List.length_map, hwr, jn_len]
        rw [el, List.take_length, ← hnext] at n7 hPr7 hR7
        walk_at "go"
        refine i_tupleOfL hR7 (fun TT hTT => ?_)
        walk_at "go"
        have sT : Same H7 (upd H7 TT (.tup (((jn m A B pr).map (pl (jAt m A B (i + 1)))).map vn))) := same_laid hTT
        have hTH : H TT = none := same_free s7 hTT
        have hTM : TT ≠ M := (ne_of_none hM7 hTT).symm
        refine i_append (sT _ _ hM7) (by rw [List.length_map, hms7.length, List.length_map, List.length_take]; omega) ?_
        walk_at "go"
        have hMt : ∀ vs, (upd H7 TT (.tup (((jn m A B pr).map (pl (jAt m A B (i + 1)))).map vn))) M ≠ some (.tup vs) := fun vs => by
          rw [sT _ _ hM7]
          intro z
          cases z
        refine ⟨_, _, _, _, _, _, bs, ms ++ [TT], rfl, Same.put (s7.trans sT) hMH, (n7.same sT).upd hNM hMt, by rw [upd_ne hOM]; exact sT _ _ hO7, (hPr7.same sT).upd hMt, by rw [upd_same, List.map_append]; rfl, ?_, fun q hq => ?_⟩
        · have hsub : (jAt m A B (i + 1)).take (i + 1) = (jAt m A B i).take i ++ [pr] := by
            obtain ⟨mm, e⟩ := g_pre (nx := jn m A B) (s := (0, 0)) i
            rw [show jAt m A B (i + 1) = jAt m A B i ++ mm from e, List.take_append_of_le_length (show i + 1 ≤ (jAt m A B i).length from hx'), take_at hpr1]
          rw [hsub, List.map_append]
          refine U.Paired.snoc ?_ ⟨Old.none hTH, by rw [upd_ne hTM, upd_same]⟩
          have e : ((jAt m A B i).take i).map (fun x => (jn m A B x).map (pl (jAt m A B (i + 1)))) = ((jAt m A B i).take i).map fun x => (jn m A B x).map (pl (jAt m A B i)) := by
            refine List.map_congr_left fun x hx => List.map_congr_left fun y hy => pl_g (Nat.le_succ i) ?_
            obtain ⟨q, hq⟩ := List.mem_iff_getElem?.mp hx
            have hql := (List.getElem?_eq_some_iff.mp hq).1
            rw [List.length_take] at hql
            rw [List.getElem?_take_of_lt (by omega)] at hq
            exact g_row (by omega) hq (hok q (by omega)) hy
          rw [e]
          refine Paired.mapP hms7 fun a r z => ⟨z.1, ?_⟩
          rw [upd_ne (fun e => hMt _ (by rw [← e]; exact sT _ _ z.2))]
          exact sT _ _ z.2
        · by_cases e : q = i
          · rw [e]; exact hx'
          · exact hok q (by omega)
    · walk_at "go"
      have hdone : Done (jn m A B) (0, 0) i := ⟨by show (jAt m A B i).length = i; omega, hok⟩
      refine ⟨sz2, fun a ha => ?_⟩
      have sA : Same H5 (upd H5 a (.tup [.ref O, .ref M])) := same_laid ha
      refine k i a O M bs _ hdone (s5.trans sA) (same_free s5 ha) upd_same (sA _ _ hO5) (hPr5.same sA) ⟨Old.none hMH, false, ms, sA _ _ hM5, ?_⟩
      have e : (jAt m A B i).take i = jAt m A B i := List.take_of_length_le (by omega)
      rw [e] at hms5
      exact Paired.mapP hms5 fun _ _ z => (z.same sA).ints
end
abbrev s_checked_moves : Stmt := top 32
theorem sc_checked_moves : FnScope ["alphabet", "moves", "at", "row", "target"] ["alphabet", "moves"] (fnScope s_checked_moves) := ⟨rfl, rfl, rfl, by decide +kernel, rfl, by decide +kernel, by decide +kernel⟩
def sp_checked_moves : Sp := fun vs H Q _ => ∃ (Z : AS) (al : List Nat) (p : Addr) (rs : Rws), vs = [.str (SX.S al), .ref p] ∧ TO Z H ∧ Rows Z H p rs ∧ AlOk al ∧ WF al.length rs ∧ ∀ pm H', Same H H' → RowsT Z H' pm rs → Q (.ref pm) H'
section
variable {P : Program} {w : World} {K : PySem.W.Frag} {mg : Str → Option Value} {base : Heap} {C : Addr} {r : Er}
set_option maxHeartbeats 4000000 in
theorem ok_checked_moves {f : Addr} {fd : FuncData} (F : Def K mg "checked_moves" s_checked_moves f fd) (T : Txt K mg C r) (b : Binds K fd ["alphabet", "moves"] []) (c_is_listed : Cal P w K mg base 1 "is_listed" sp_is_listed []) (c_is_integer : Cal P w K mg base 1 "is_integer" sp_is_integer []) : Cal P w K mg base 2 "checked_moves" (sp_checked_moves) [] := by
  refine cal0 F b .nil sc_checked_moves (fun vs H Q E h => ?_) (fun cdv A outer s H vs Q E hr h => ?_)
  · obtain ⟨_, _, _, _, rfl, _⟩ := h
    rfl
  · obtain ⟨Z, al, p, rs, rfl, hT, hp, ha, hw, k⟩ := h
    refine ⟨_, (pss_cons (ps_if (PW.pt (pw_or (pt_not (pt_val (pe_c c_is_listed hr (by decide) rfl (pa_cons (pv 1) pa_nil)))) (pw_or1 (pt_not (pt_chain op_le op_le pe_int (pe_callB (lenK K rfl) (by rfl) T.b_len (by decide +kernel) (pa_cons (pv 1) pa_nil)) (pe_gc rfl T.c_MOST_ROOMS)))))) (pss_one ps_never) pss_nil)
        (pss_cons (ps_for PassesOwn.never rfl (enumRK K rfl (by rfl) T.b_enumerate (pa_cons (pv 1) pa_nil)) (pg_tup rfl (pgs_cons (pg_name (i := 2) sc_checked_moves.nd rfl (by first | exact Or.inl rfl | exact Or.inr rfl)) (pgs_cons (pg_name (i := 3) sc_checked_moves.nd rfl (by first | exact Or.inl rfl | exact Or.inr rfl)) pgs_nil)))
        (pss_cons (ps_if (PW.pt (pw_or (pt_not (pt_val (pe_c c_is_listed hr (by decide) rfl (pa_cons (pv 3) pa_nil)))) (pw_or1 (pt_cmpR op_ne (pe_callB (lenK K rfl) (by rfl) T.b_len (by decide +kernel) (pa_cons (pv 3) pa_nil)) (pe_callB (lenK K rfl) (by rfl) T.b_len (by decide +kernel) (pa_cons (pv 0) pa_nil)) (nomark _))))) (pss_one ps_never) pss_nil)
        (pss_one (ps_if (pt_not (pt_val (pe_callB (allK K rfl rfl) (by rfl) T.b_all (by decide +kernel) (pa_cons (pe_lc (own := [("target", 4)]) rfl sc_checked_moves.nd (seqK K rfl (pv 3)) (blkOk_by (by kernel_rfl)) (fun _ _ _ _ _ => (pg_name (i := 4) sc_checked_moves.nd rfl (by first | exact Or.inl rfl | exact Or.inr rfl))) (fun _ _ _ _ _ => pts_nil) (fun _ _ _ _ _ => (pe_c c_is_integer hr (by decide) rfl (pa_cons (pv 4) (pa_cons pe_int (pa_cons (pe_op op_sub (pe_callB (lenK K rfl) (by rfl) T.b_len (by decide +kernel) (pa_cons (pv 1) pa_nil)) pe_int) pa_nil)))))) pa_nil)))) (pss_one ps_never) pss_nil))))
        (pss_one (ps_ret (pe_callTy (tupleK K rfl) (by rfl) T.b_tuple (by decide +kernel) (pa_cons (pe_lc (own := [("row", 3)]) rfl sc_checked_moves.nd (seqK K rfl (pv 1)) (blkOk_by (by kernel_rfl)) (fun _ _ _ _ _ => (pg_name (i := 3) sc_checked_moves.nd rfl (by first | exact Or.inl rfl | exact Or.inr rfl))) (fun _ _ _ _ _ => pts_nil) (fun _ _ _ _ _ => (pe_callTy (tupleK K rfl) (by rfl) T.b_tuple (by decide +kernel) (pa_cons (pv 3) pa_nil)))) pa_nil)))))), ?_⟩
    walk_at "go"
    obtain ⟨hZ, t, as, hv, hpa⟩ := id hp
    have hvl : (as.map V.ref).length = rs.length := by rw [List.length_map, hpa.length]
    have hle := hw.le
    have hpos := hw.pos
    have ha3 := ha.le
    have hl : (SX.S al).length = al.length := SX.S_len al
    refine ⟨p, t, _, rfl, hv, fun H1 s1 => ?_⟩
    walk_at "go"
    refine i_lenQ (s1 _ _ hv) ?_
    walk_at "go"
    rw [hvl]
    refine ite_dt (by show (1 : Int) ≤ _; omega) ?_
    walk_at "go"
    refine ite_ndf (by show _ ≤ (60 : Int); omega) ?_
    walk_at "go"
    refine enumR_for (s1 _ _ hv) (fun i σ H' => ∃ x y, σ = [some (.str (SX.S al)), some (.ref p), x, y, none] ∧ Same H1 H') ⟨none, none, rfl, Same.refl _⟩ (fun i σ H' _ ⟨_, _, _, e⟩ => e _ _ (s1 _ _ hv)) (fun i v TT σ H' hvi hp' hTT => ?_) (fun σ H' hp' => ?_)
    · obtain ⟨x, y, rfl, hs⟩ := hp'
      obtain ⟨a, hva, rfl⟩ := at_map hvi
      obtain ⟨rw', hrw, hia⟩ := Paired.at0 hpa hva
      have hmem : rw' ∈ rs := List.mem_of_getElem? hrw
      have hs' : Same H (upd H' TT (.tup [.int (i : Nat), .ref a])) := (s1.trans hs).trans (same_laid hTT)
      walk_at "go"
      obtain ⟨hia1, ti, hia2⟩ := hia
      have hwid := hw.wid _ hmem
      refine ⟨a, ti, _, rfl, hs' _ _ hia2, fun H2 s2 => ?_⟩
      have s3 := hs'.trans s2
      walk_at "go"
      refine i_lenQ (s3 _ _ hia2) ?_
      walk_at "go"
      refine i_lenS (szl (by omega)) ?_
      walk_at "go"
      refine ite_ndf (by rw [List.length_map]; omega) ?_
      walk_at "go"
      refine seq_lc (s3 _ _ hia2) (fun D hD => ⟨fun j H3 => j ≤ rw'.length ∧ H3 = upd H2 D (.lst (List.replicate j (.bl true))), ⟨Nat.zero_le _, rfl⟩, fun j H3 _ ⟨_, e⟩ => by rw [e, upd_ne (ne_of_none (s3 _ _ hia2) hD)]; exact s3 _ _ hia2, fun j v H3 hvj hp3 => ?_, fun H3 hp3 => ?_⟩)
      · obtain ⟨_, rfl⟩ := hp3
        obtain ⟨u, hu, rfl⟩ := at_map hvj
        have hlt : u < rs.length := hw.lt _ hmem u (List.mem_of_getElem? hu)
        have hj : j < rw'.length := (List.getElem?_eq_some_iff.mp hu).1
        walk_at "go"
        refine i_lenQ (by rw [upd_ne (ne_of_none (s3 _ _ hv) hD)]; exact s3 _ _ hv) ?_
        walk_at "go"
        refine ⟨u, 0, _, rfl, ?_⟩
        rw [decide_eq_true (by rw [hvl]; omega)]
        exact ⟨_, upd_same, szlt (by rw [List.length_replicate]; omega), hj, upd_lst (rep_snoc j (V.bl true))⟩
      · obtain ⟨_, rfl⟩ := hp3
        walk_at "go"
        refine i_all (bs := List.replicate _ true) (by rw [upd_same, map_rep]) (all_rep _) ?_
        walk_at "go"
        exact ⟨_, _, rfl, ((hs.trans (same_laid hTT)).trans s2).trans (same_laid hD)⟩
    · obtain ⟨x, y, rfl, hs⟩ := hp'
      walk_at "go"
      have s2 := s1.trans hs
      refine seq_lc (s2 _ _ hv) (fun D hD => ⟨fun j H3 => Same H' H3 ∧ ∃ bs, H3 D = some (.lst (bs.map V.ref)) ∧ Paired (fun a r => IntsT Z H3 a r) bs (rs.take j), ⟨same_laid hD, [], upd_same, by simp; exact .nil⟩, fun j H3 _ ⟨e, _⟩ => e _ _ (s2 _ _ hv), fun j v H3 hvj hp3 => ?_, fun H3 hp3 => ?_⟩)
      · obtain ⟨s3, bs, hD3, hbs⟩ := hp3
        obtain ⟨a, hva, rfl⟩ := at_map hvj
        obtain ⟨rw', hrw, hia1, ti, hia2⟩ := Paired.at0 hpa hva
        have hj : j < rs.length := (List.getElem?_eq_some_iff.mp hrw).1
        walk_at "go"
        refine i_tupleOf (s3 _ _ (s2 _ _ hia2)) (fun l H4 h1 h2 h3 => ?_)
        have hDl : l ≠ D := fun e => by
          rcases h3 with h3 | ⟨h3, _⟩
          · rw [e, hD3] at h3; cases h3
          · rw [← e, h3, s2 _ _ hia2] at hD; cases hD
        have hlZ : ¬ Z l := by
          rcases h3 with h3 | ⟨h3, _⟩
          · exact fun z => Old.none h3 (hT.same (s2.trans s3) l z)
          · rw [h3]; exact hia1
        have hsm : Same H3 (upd H4 D (.lst (bs.map V.ref ++ [V.ref l]))) → True := fun _ => trivial
        refine ⟨_, h2 _ _ hD3, szlt (by rw [List.length_map, hbs.length, List.length_take]; omega), fun b o e => ?_, bs ++ [l], by rw [upd_same, List.map_append]; rfl, ?_⟩
        · rw [upd_ne (ne_of_none e hD)]
          exact h2 _ _ (s3 _ _ e)
        · rw [take_at hrw]
          have hk : Kp (fun b => b = D) H3 (upd H4 D (.lst (bs.map V.ref ++ [V.ref l]))) := fun b o n e => by
            rw [upd_ne n]
            exact h2 _ _ e
          refine U.Paired.snoc (Paired.mapP hbs fun b r z => ⟨z.1, ?_⟩) ⟨hlZ, by rw [upd_ne hDl]; exact h1⟩
          refine hk _ _ (fun e => ?_) z.2
          have := z.2
          rw [e, hD3] at this
          cases this
      · obtain ⟨s3, bs, hD3, hbs⟩ := hp3
        walk_at "go"
        refine i_tupleOfL hD3 (fun l hl4 => ?_)
        have s4 := (s2.trans s3).trans (same_laid (o := .tup (bs.map V.ref)) hl4)
        refine k l _ s4 ⟨hT.same (s2.trans s3) |>.new hl4, bs, upd_same, ?_⟩
        have e : (rs.take (List.map V.ref as).length) = rs := by rw [hvl, List.take_length]
        rw [e] at hbs
        exact Paired.mapP hbs fun b r z => z.same (same_laid hl4)
end
abbrev s_checked_good : Stmt := top 33
theorem sc_checked_good : FnScope ["moves", "good", "at", "room"] ["moves", "good"] (fnScope s_checked_good) := ⟨rfl, rfl, rfl, by decide +kernel, rfl, by decide +kernel, by decide +kernel⟩
def sp_checked_good : Sp := fun vs H Q _ => ∃ (Z : AS) (pm : Addr) (rs : Rws) (pg : Addr) (gd : List Nat) (m : Nat), vs = [.ref pm, .ref pg] ∧ TO Z H ∧ Rows Z H pm rs ∧ Ints Z H pg gd ∧ WF m rs ∧ GOK rs.length gd ∧ ∀ pg' H', Same H H' → IntsT Z H' pg' gd → Q (.ref pg') H'
section
variable {P : Program} {w : World} {K : PySem.W.Frag} {mg : Str → Option Value} {base : Heap} {C : Addr} {r : Er}
set_option maxHeartbeats 4000000 in
theorem ok_checked_good {f : Addr} {fd : FuncData} (F : Def K mg "checked_good" s_checked_good f fd) (T : Txt K mg C r) (b : Binds K fd ["moves", "good"] []) (c_is_listed : Cal P w K mg base 1 "is_listed" sp_is_listed []) (c_is_integer : Cal P w K mg base 1 "is_integer" sp_is_integer []) : Cal P w K mg base 2 "checked_good" (sp_checked_good) [] := by
  refine cal0 F b .nil sc_checked_good (fun vs H Q E h => ?_) (fun cdv A outer s H vs Q E hr h => ?_)
  · obtain ⟨_, _, _, _, _, _, rfl, _⟩ := h
    rfl
  · obtain ⟨Z, pm, rs, pg, gd, m, rfl, hT, hm, hg, hw, hk, k⟩ := h
    refine ⟨_, (pss_cons (ps_if (pt_not (pt_val (pe_c c_is_listed hr (by decide) rfl (pa_cons (pv 1) pa_nil)))) (pss_one ps_never) pss_nil)
        (pss_cons (ps_for PassesOwn.never rfl (enumRK K rfl (by rfl) T.b_enumerate (pa_cons (pv 1) pa_nil)) (pg_tup rfl (pgs_cons (pg_name (i := 2) sc_checked_good.nd rfl (by first | exact Or.inl rfl | exact Or.inr rfl)) (pgs_cons (pg_name (i := 3) sc_checked_good.nd rfl (by first | exact Or.inl rfl | exact Or.inr rfl)) pgs_nil)))
        (pss_cons (ps_if (pt_not (pt_val (pe_c c_is_integer hr (by decide) rfl (pa_cons (pv 3) (pa_cons pe_int (pa_cons (pe_op op_sub (pe_callB (lenK K rfl) (by rfl) T.b_len (by decide +kernel) (pa_cons (pv 0) pa_nil)) pe_int) pa_nil)))))) (pss_one ps_never) pss_nil)
        (pss_one (ps_if (PW.pt (pw_and (pt_cmpR op_gt (pv 2) pe_int (nomark _)) (pw_and1 (pt_not (pt_cmpR op_lt (pe_ix (ixK K rfl) (pv 1) (pe_op op_sub (pv 2) pe_int) (fun _ _ => rfl)) (pv 3) (nomark _)))))) (pss_one ps_never) pss_nil))))
        (pss_one (ps_ret (pe_callTy (tupleK K rfl) (by rfl) T.b_tuple (by decide +kernel) (pa_cons (pv 1) pa_nil)))))), ?_⟩
    walk_at "go"
    obtain ⟨t, vs, hv, hvl⟩ := hm.len
    obtain ⟨hZ, tg, hgv⟩ := id hg
    have hle := hw.le
    refine ⟨pg, tg, _, rfl, hgv, fun H1 s1 => ?_⟩
    walk_at "go"
    refine enumR_for (s1 _ _ hgv) (fun i σ H' => ∃ x y, σ = [some (.ref pm), some (.ref pg), x, y] ∧ Same H1 H') ⟨none, none, rfl, Same.refl _⟩ (fun i σ H' _ ⟨_, _, _, e⟩ => e _ _ (s1 _ _ hgv)) (fun i v TT σ H' hvi hp' hTT => ?_) (fun σ H' hp' => ?_)
    · obtain ⟨x, y, rfl, hs⟩ := hp'
      obtain ⟨u, hu, rfl⟩ := at_map hvi
      have hs' : Same H (upd H' TT (.tup [.int (i : Nat), vn u])) := (s1.trans hs).trans (same_laid hTT)
      walk_at "go"
      refine i_lenQ (hs' _ _ hv) ?_
      walk_at "go"
      have hlt : u < rs.length := hk.lt u (List.mem_of_getElem? hu)
      refine ⟨u, 0, _, rfl, ?_⟩
      rw [decide_eq_true (by rw [hvl]; omega)]
      walk_at "go"
      refine iteD (fun hi => ?_) (fun hi => ?_)
      · walk_at "go"
        obtain ⟨i', rfl⟩ : ∃ i', i = i' + 1 := ⟨i - 1, by have : (0 : Int) < (i : Int) := hi; omega⟩
        have hu1 := (List.getElem?_eq_some_iff.mp hu).1
        have hlt2 : gd[i']'(by omega) < gd[i' + 1]'hu1 := List.pairwise_iff_getElem.mp hk.inc i' (i' + 1) _ _ (by omega)
        have eu : gd[i' + 1]'hu1 = u := (List.getElem?_eq_some_iff.mp hu).2
        refine i_ixQ (hs' _ _ hgv) (v := vn (gd[i']'(by omega))) (by rw [show (((i' + 1 : Nat) : Int) - 1) = (i' : Int) by omega]; exact vn_at (List.getElem?_eq_getElem _)) ?_
        walk_at "go"
        refine ite_ndf (by omega) ?_
        walk_at "go"
        exact ⟨_, _, rfl, hs.trans (same_laid hTT)⟩
      · walk_at "go"
        exact ⟨_, _, rfl, hs.trans (same_laid hTT)⟩
    · obtain ⟨x, y, rfl, hs⟩ := hp'
      walk_at "go"
      have s2 := s1.trans hs
      refine i_tupleOf (s2 _ _ hgv) (fun l H4 h1 h2 h3 => k l H4 (s2.trans h2) ⟨?_, h1⟩)
      rcases h3 with h3 | ⟨h3, _⟩
      · exact fun z => Old.none h3 (hT.same s2 l z)
      · rw [h3]; exact hZ
end
abbrev s_Readerd_initd : Stmt := inClass (top 34) 0
theorem sc_Readerd_initd : FnScope ["self", "alphabet", "moves", "good"] ["self", "alphabet", "moves", "good"] (fnScope s_Readerd_initd) := ⟨rfl, rfl, rfl, by decide +kernel, rfl, by decide +kernel, by decide +kernel⟩
def sp_Readerd_initd (C : Addr) : Sp := fun vs H Q _ => ∃ (Z : AS) (p dx : Addr) (al : List Nat) (m : Addr) (rs : Rws) (g : Addr) (gd : List Nat), vs = [.ref p, .str (SX.S al), .ref m, .ref g] ∧ TO Z H ∧ H p = some (.ins C dx []) ∧ AlOk al ∧ Rows Z H m rs ∧ Ints Z H g gd ∧ WF al.length rs ∧ GOK rs.length gd ∧
  ∀ H' pm pg, Kp (fun b => b = p) H H' → H' p = some (.ins C dx (flds al pm pg)) → RowsT Z H' pm rs → IntsT Z H' pg gd → Q .non H'
section
variable {P : Program} {w : World} {K : PySem.W.Frag} {mg : Str → Option Value} {base : Heap} {C : Addr} {r : Er}
set_option maxHeartbeats 4000000 in
theorem ok_Readerd_initd {f : Addr} {fd : FuncData} (F : C8.Fun K "__init__" "Reader.__init__" s_Readerd_initd f fd) (T : Txt K mg C r) (c_check_alphabet : Cal P w K mg base 2 "check_alphabet" sp_check_alphabet []) (c_checked_moves : Cal P w K mg base 2 "checked_moves" sp_checked_moves []) (c_checked_good : Cal P w K mg base 2 "checked_good" sp_checked_good []) : FnOk P w K mg base C8.CX0 3 f fd ["self", "alphabet", "moves", "good"] (sp_Readerd_initd C) := by
  refine fn0 F sc_Readerd_initd (fun vs H Q E h => ?_) (fun cdv A outer s H vs Q E hr h => ?_)
  · obtain ⟨_, _, _, _, _, _, _, _, rfl, _⟩ := h
    rfl
  · obtain ⟨Z, p, dx, al, m, rs, g, gd, rfl, hT, hp, ha, hm, hg, hw, hk, k⟩ := h
    refine ⟨_, (pss_cons (ps_expr (pe_c c_check_alphabet hr (by decide) rfl (pa_cons (pv 1) pa_nil)))
        (pss_cons (ps_fld (pv 0) (pv 1) rfl)
        (pss_cons (ps_fld (pv 0) (pe_c c_checked_moves hr (by decide) rfl (pa_cons (pv 1) (pa_cons (pv 2) pa_nil))) rfl)
        (pss_one (ps_fld (pv 0) (pe_c c_checked_good hr (by decide) rfl (pa_cons (fldK K rfl (pv 0) rfl) (pa_cons (pv 3) pa_nil))) rfl))))), ?_⟩
    walk_at "go"
    refine ⟨al, rfl, ha, fun H1 s1 => ?_⟩
    walk_at "go"
    refine r_fld (s1 _ _ hp) T.cl T.nA (by show 0 < 1000; decide) ?_
    have hm1 := (hm.ins hp).same s1
    have hg1 := (hg.ins hp).same s1
    have hT1 : TO (fun b => Z b ∨ b = p) H1 := fun b hb => hb.elim (fun z => hT.same s1 b z) fun z => by rw [z]; exact ⟨_, s1 _ _ hp⟩
    generalize hfa : putF "alphabet" (V.str (SX.S al)) [] = fa
    have hfl : fa.length = 1 := by rw [← hfa]; rfl
    have kp1 : Kp (fun b => b = p) H1 (upd H1 p (.ins C dx fa)) := Kp.at
    have hT2 : TO (fun b => Z b ∨ b = p) (upd H1 p (.ins C dx fa)) := fun b hb => by
      by_cases e : b = p
      · rw [e]; exact ⟨_, upd_same⟩
      · obtain ⟨o, ho⟩ := hT1 b hb
        exact ⟨o, kp1 _ _ e ho⟩
    walk_at "go"
    refine ⟨fun b => Z b ∨ b = p, al, m, rs, rfl, hT2, hm1.kp kp1 (fun b hb => .inr hb), ha, hw, fun pm H2 s2 hpm => ?_⟩
    have hg2 := (hg1.kp kp1 (fun b hb => .inr hb)).same s2
    walk_at "go"
    refine r_fld (s2 _ _ upd_same) T.cl T.nM (by rw [hfl]; decide) ?_
    generalize hfm : putF "moves" (V.ref pm) fa = fm
    have hfl2 : fm.length < 1000 := by
      rw [← hfm, ← hfa]
      show (if ("alphabet" : Str) = "moves" then [(("alphabet" : Str), V.ref pm)] else [(("alphabet" : Str), V.str (SX.S al)), (("moves" : Str), V.ref pm)]).length < 1000
      split
      · show 1 < 1000
        decide
      · show 2 < 1000
        decide
    have lkm : fm.lookup ("moves" : Str) = some (V.ref pm) := by rw [← hfm, lookup_putF, if_pos rfl]
    have kp2 : Kp (fun b => b = p) H2 (upd H2 p (.ins C dx fm)) := Kp.at
    have hT3 : TO (fun b => Z b ∨ b = p) (upd H2 p (.ins C dx fm)) := fun b hb => by
      by_cases e : b = p
      · rw [e]; exact ⟨_, upd_same⟩
      · obtain ⟨o, ho⟩ := (hT2.same s2) b hb
        exact ⟨o, kp2 _ _ e ho⟩
    have hpm2 := hpm.kp kp2 (fun b hb => .inr hb)
    walk_at "go"
    refine i_fldR upd_same T.cl T.nM lkm ?_
    walk_at "go"
    refine ⟨fun b => Z b ∨ b = p, pm, rs, g, gd, al.length, rfl, hT3, hpm2.rows, hg2.kp kp2 (fun b hb => .inr hb), hw, hk, fun pg H3 s3 hpg => ?_⟩
    walk_at "go"
    refine r_fld (s3 _ _ upd_same) T.cl T.nG hfl2 ?_
    have kp3 : Kp (fun b => b = p) H3 (upd H3 p (.ins C dx (putF "good" (.ref pg) fm))) := Kp.at
    refine k _ pm pg ?_ ?_ (((hpm2.same s3).kp kp3 (fun b hb => .inr hb)).weak fun b hb => .inl hb) ((hpg.kp kp3 (fun b hb => .inr hb)).weak fun b hb => .inl hb)
    · exact ((((Kp.of_same s1).trans kp1).trans (.of_same s2)).trans kp2 |>.trans (.of_same s3)).trans kp3
    · rw [upd_same, ← hfm, ← hfa]
      rfl
end
abbrev s_good_marks : Stmt := top 36
theorem sc_good_marks : FnScope ["reader", "room"] ["reader"] (fnScope s_good_marks) := ⟨rfl, rfl, rfl, by decide +kernel, rfl, by decide +kernel, by decide +kernel⟩
def sp_good_marks (C : Addr) : Sp := fun vs H Q _ => ∃ (Z : AS) (p : Addr) (al : List Nat) (rs : Rws) (gd : List Nat), vs = [.ref p] ∧ Rd C Z H p al rs gd ∧ rs.length ≤ 60 ∧ ∀ a H', Same H H' → H a = none → H' a = some (.lst ((List.range rs.length).map fun r => .bl (decide (r ∈ gd)))) → Q (.ref a) H'
section
variable {P : Program} {w : World} {K : PySem.W.Frag} {mg : Str → Option Value} {base : Heap} {C : Addr} {r : Er}
set_option maxHeartbeats 4000000 in
theorem ok_good_marks {f : Addr} {fd : FuncData} (F : Def K mg "good_marks" s_good_marks f fd) (T : Txt K mg C r) (b : Binds K fd ["reader"] []) : Cal P w K mg base 1 "good_marks" (sp_good_marks C) [] := by
  refine cal0 F b .nil sc_good_marks (fun vs H Q E h => ?_) (fun cdv A outer s H vs Q E hr h => ?_)
  · obtain ⟨_, _, _, _, _, rfl, _⟩ := h
    rfl
  · obtain ⟨Z, p, al, rs, gd, rfl, hp, hw, k⟩ := h
    refine ⟨_, (pss_one (ps_ret (pe_lc (own := [("room", 1)]) rfl sc_good_marks.nd (pi_range1 (by rfl) T.b_range (pa_cons (pe_callB (lenK K rfl) (by rfl) T.b_len (by decide +kernel) (pa_cons (fldK K rfl (pv 0) rfl) pa_nil)) pa_nil)) (blkOk_by (by kernel_rfl)) (fun _ _ _ _ _ => (pg_name (i := 1) sc_good_marks.nd rfl (by first | exact Or.inl rfl | exact Or.inr rfl))) (fun _ _ _ _ _ => pts_nil) (fun _ _ _ _ _ => (pe_cmpR (inK K rfl) (pv 1) (fldK K rfl (pv 0) rfl) rfl))))), ?_⟩
    walk_at "go"
    obtain ⟨hpZ, dx, pm, pg, hp1, hp2, hp3⟩ := hp
    obtain ⟨vs, hv, hvl⟩ := hp2.len
    refine i_fldR hp1 T.cl T.nM (flds_mo al pm pg) ?_
    walk_at "go"
    refine ⟨by omega, by omega, fun D hD => ?_⟩
    rw [Int.toNat_natCast, hvl]
    refine rng0_lc (fun i H' => i ≤ rs.length ∧ H' = upd H D (.lst ((List.range i).map fun r => .bl (decide (r ∈ gd))))) ⟨Nat.zero_le _, rfl⟩ (fun i H' hi hq => ?_) (fun H' hq => ?_)
    · obtain ⟨_, rfl⟩ := hq
      have hpD : p ≠ D := ne_of_none hp1 hD
      walk_at "go"
      refine i_fldR (by rw [upd_ne hpD]; exact hp1) T.cl T.nG (flds_go al pm pg) ?_
      refine i_inI (t := true) (by rw [upd_ne (ne_of_none hp3.2 hD)]; exact hp3.2) ?_
      exact ⟨_, upd_same, szlt (by rw [List.length_map, List.length_range]; omega), hi, upd_lst (by rw [List.range_succ, List.map_append]; rfl)⟩
    · obtain ⟨_, rfl⟩ := hq
      exact k D _ (same_laid hD) hD upd_same
end
abbrev s_Readerd_eqd : Stmt := inClass (top 34) 6
theorem sc_Readerd_eqd : FnScope ["self", "other"] ["self", "other"] (fnScope s_Readerd_eqd) := ⟨rfl, rfl, rfl, by decide +kernel, rfl, by decide +kernel, by decide +kernel⟩
def sp_Readerd_eqd (C : Addr) : Sp := fun vs H Q _ => ∃ (Z : AS) (p q : Addr) (al : List Nat) (rs : Rws) (gd : List Nat) (rs' : Rws) (gd' : List Nat), vs = [.ref p, .ref q] ∧ Rd C Z H p al rs gd ∧ Rd C Z H q al rs' gd' ∧ rs.length ≤ 60 ∧ rs'.length ≤ 60 ∧ Q (.bl (decide (rs = rs' ∧ gd = gd'))) H
section
variable {P : Program} {w : World} {K : PySem.W.Frag} {mg : Str → Option Value} {base : Heap} {C : Addr} {r : Er}
set_option maxHeartbeats 4000000 in
theorem ok_Readerd_eqd {f : Addr} {fd : FuncData} (F : C8.Fun K "__eq__" "Reader.__eq__" s_Readerd_eqd f fd) (T : Txt K mg C r) : FnOk P w K mg base C8.CX0 1 f fd ["self", "other"] (sp_Readerd_eqd C) := by
  refine fn0 F sc_Readerd_eqd (fun vs H Q E h => ?_) (fun cdv A outer s H vs Q E hr h => ?_)
  · obtain ⟨_, _, _, _, _, _, _, _, rfl, _⟩ := h
    rfl
  · obtain ⟨Z, p, q, al, rs, gd, rs', gd', rfl, hp, hq, hw, hw', k⟩ := h
    refine ⟨_, (pss_one (ps_ret (pe_and (pe_callB (call_isC T.ins) (by rfl) T.b_isinstance (by decide +kernel) (pa_cons (pv 1) (pa_cons (pe_gc (v := .ref C) rfl ⟨_, T.mg_Reader, rfl⟩) pa_nil))) (pe_and (pe_cmpR op_eq (fldK K rfl (pv 0) rfl) (fldK K rfl (pv 1) rfl) (nomark _)) (pe_and (pe_cmpR (eqDK K rfl hr.units) (fldK K rfl (pv 0) rfl) (fldK K rfl (pv 1) rfl) (nomark _)) (pe_one (pe_cmpR (eqDK K rfl hr.units) (fldK K rfl (pv 0) rfl) (fldK K rfl (pv 1) rfl) (nomark _)))))))), ?_⟩
    walk_at "go"
    obtain ⟨hpZ, dx, pm, pg, hp1, hp2, hp3⟩ := hp
    obtain ⟨hqZ, dy, qm, qg, hq1, hq2, hq3⟩ := hq
    refine ⟨q, dy, _, rfl, hq1, ?_⟩
    walk_at "go"
    refine i_fldR hp1 T.cl T.nA (flds_al al pm pg) ?_
    walk_at "go"
    refine i_fldR hq1 T.cl T.nA (flds_al al qm qg) ?_
    walk_at "go"
    refine ite_dt rfl ?_
    walk_at "go"
    refine i_fldR hp1 T.cl T.nM (flds_mo al pm pg) ?_
    walk_at "go"
    refine i_fldR hq1 T.cl T.nM (flds_mo al qm qg) ?_
    refine i_eqRows hp2 hq2 ?_
    walk_at "go"
    refine iteD (fun he => ?_) (fun he => ?_)
    · walk_at "go"
      refine i_fldR hp1 T.cl T.nG (flds_go al pm pg) ?_
      walk_at "go"
      refine i_fldR hq1 T.cl T.nG (flds_go al qm qg) ?_
      refine i_eqInts hp3 hq3 ?_
      have e : decide (gd = gd') = decide (rs = rs' ∧ gd = gd') := by simp [he]
      rw [e]
      exact k
    · have e : false = decide (rs = rs' ∧ gd = gd') := by simp [he]
      rw [e]
      exact k
end
abbrev s_room_classes : Stmt := top 26
theorem sc_room_classes : FnScope ["rooms", "moves", "marks", "classes", "many", "grown", "numbers", "renewed", "room", "mark", "target"] ["rooms", "moves", "marks"] (fnScope s_room_classes) := ⟨rfl, rfl, rfl, by decide +kernel, rfl, by decide +kernel, by decide +kernel⟩
def cnA (rs : Rws) (mk : Nat → Bool) (rooms : List Nat) : Nat → Nat
  | 0 => 0
  | k + 1 => cnt rooms (sigA rs mk rooms k)
def grA (rs : Rws) (mk : Nat → Bool) (rooms : List Nat) : Nat → Bool
  | 0 => true
  | k + 1 => decide (cnA rs mk rooms k < cnA rs mk rooms (k + 1))
def clD (rs : Rws) (mk : Nat → Bool) (rooms : List Nat) : Nat → List (Key × V)
  | 0 => []
  | k + 1 => mapK rooms fun r => vn (clsA rs mk rooms k r)
theorem cnA_le (rs : Rws) (mk : Nat → Bool) (rooms : List Nat) : ∀ k, cnA rs mk rooms k ≤ rooms.length
  | 0 => Nat.zero_le _
  | k + 1 => by
    have := len_dd (rooms.map (sigA rs mk rooms k))
    rwa [List.length_map] at this
theorem cnA_pos {rs : Rws} {mk : Nat → Bool} {rooms : List Nat} (h : 0 ∈ rooms) (k : Nat) : 0 < cnA rs mk rooms (k + 1) := List.length_pos_of_mem (mem_dd.mpr (List.mem_map.mpr ⟨0, h, rfl⟩))
def sp_room_classes : Sp := fun vs H Q _ => ∃ (Z : AS) (po pm pk : Addr) (rooms : List Nat) (rs : Rws) (mk : Nat → Bool) (m : Nat), vs = [.ref po, .ref pm, .ref pk] ∧ H po = some (.lst (rooms.map vn)) ∧ Rows Z H pm rs ∧ H pk = some (.lst ((List.range rs.length).map fun r => .bl (mk r))) ∧ WFB m rs ∧ rooms.length ≤ 4000 ∧ 0 ∈ rooms ∧ rooms.Nodup ∧ (∀ r ∈ rooms, r < rs.length ∧ ∀ t ∈ row rs r, t ∈ rooms) ∧
  ∀ j a H', (cnt rooms (sigA rs mk rooms (j + 1)) ≤ cnt rooms (sigA rs mk rooms j)) → Same H H' → H a = none → H' a = some (.dK (mapK rooms fun r => vn (clsA rs mk rooms (j + 1) r))) → Q (.ref a) H'
section
variable {P : Program} {w : World} {K : PySem.W.Frag} {mg : Str → Option Value} {base : Heap} {C : Addr} {r : Er}
set_option maxHeartbeats 4000000 in
theorem ok_room_classes {f : Addr} {fd : FuncData} (F : Def K mg "room_classes" s_room_classes f fd) (T : Txt K mg C r) (b : Binds K fd ["rooms", "moves", "marks"] []) : Cal P w K mg base 1 "room_classes" (sp_room_classes) [] := by
  refine cal0 F b .nil sc_room_classes (fun vs H Q E h => ?_) (fun cdv A outer s H vs Q E hr h => ?_)
  · obtain ⟨_, _, _, _, _, _, _, _, rfl, _⟩ := h
    rfl
  · obtain ⟨Z, po, pm, pk, rooms, rs, mk, m, rfl, ho, hm, hk, hw, hl, h0, hnd, hin, k⟩ := h
    refine ⟨_, (pss_cons (ps_set (i := 3) sc_room_classes.nd rfl (by first | exact Or.inl rfl | exact Or.inr rfl) pe_dnewK)
        (pss_cons (ps_set (i := 4) sc_room_classes.nd rfl (by first | exact Or.inl rfl | exact Or.inr rfl) pe_int)
        (pss_cons (ps_set (i := 5) sc_room_classes.nd rfl (by first | exact Or.inl rfl | exact Or.inr rfl) pe_bl)
        (pss_cons (ps_while PassesOwn.never (pt_val (pv 5)) (pss_cons (ps_set (i := 6) sc_room_classes.nd rfl (by first | exact Or.inl rfl | exact Or.inr rfl) pe_dnewN)
        (pss_cons (ps_set (i := 7) sc_room_classes.nd rfl (by first | exact Or.inl rfl | exact Or.inr rfl) pe_dnewK)
        (pss_cons (ps_for PassesOwn.never rfl (seqK K rfl (pv 0)) (pg_name (i := 8) sc_room_classes.nd rfl (by first | exact Or.inl rfl | exact Or.inr rfl))
        (C8.pss_cut (ps_if (pt_cmpR op_eq (pv 4) pe_int (nomark _)) (pss_one (ps_set (i := 9) sc_room_classes.nd rfl (by first | exact Or.inl rfl | exact Or.inr rfl) (pe_tup (pa_cons (pe_ix (ixK K rfl) (pv 2) (pv 8) (fun _ _ => rfl)) pa_nil)))) (pss_one (ps_set (i := 9) sc_room_classes.nd rfl (by first | exact Or.inl rfl | exact Or.inr rfl) (pe_tup (pa_cons (pe_dget (hu_of hr) (pv 3) (pv 8) (fun _ _ => rfl)) (pa_cons (pe_callTy (tupleK K rfl) (by rfl) T.b_tuple (by decide +kernel) (pa_cons (pe_lc (own := [("target", 10)]) rfl sc_room_classes.nd (seqK K rfl (pe_ix (ixK K rfl) (pv 1) (pv 8) (fun _ _ => rfl))) (blkOk_by (by kernel_rfl)) (fun _ _ _ _ _ => (pg_name (i := 10) sc_room_classes.nd rfl (by first | exact Or.inl rfl | exact Or.inr rfl))) (fun _ _ _ _ _ => pts_nil) (fun _ _ _ _ _ => (pe_dget (hu_of hr) (pv 3) (pv 10) (fun _ _ => rfl)))) pa_nil)) pa_nil))))))
        (C8.pss_cut (ps_if (pt_cmp (pc_nnotin hr.units (pv 9) (pv 6))) (pss_one (ps_nput hr.units (pv 6) (pv 9) (pe_callB (lenNK P w rfl rfl) (by rfl) T.b_len (by decide +kernel) (pa_cons (pv 6) pa_nil)) rfl)) pss_nil)
        (pss_one (ps_dput (hu_of hr) (pv 7) (pv 8) (pe_nget hr.units (pv 6) (pv 9) (fun _ _ => rfl)) rfl)))))
        (pss_cons (ps_set (i := 5) sc_room_classes.nd rfl (by first | exact Or.inl rfl | exact Or.inr rfl) (pe_cmpR op_gt (pe_callB (lenNK P w rfl rfl) (by rfl) T.b_len (by decide +kernel) (pa_cons (pv 6) pa_nil)) (pv 4) (nomark _)))
        (pss_cons (ps_set (i := 4) sc_room_classes.nd rfl (by first | exact Or.inl rfl | exact Or.inr rfl) (pe_callB (lenNK P w rfl rfl) (by rfl) T.b_len (by decide +kernel) (pa_cons (pv 6) pa_nil)))
        (pss_one (ps_set (i := 3) sc_room_classes.nd rfl (by first | exact Or.inl rfl | exact Or.inr rfl) (pv 7)))))))))
        (pss_one (ps_ret (pv 3))))))), ?_⟩
    walk_at "go"
    intro C0 hC0
    walk_at "go"
    refine i_while 4002 (fun k σ H' => ∃ Cd x6 x7 x8 x9 x10, σ = [some (.ref po), some (.ref pm), some (.ref pk), some (.ref Cd), some (vn (cnA rs mk rooms k)), some (.bl (grA rs mk rooms k)), x6, x7, x8, x9, x10] ∧ Same H H' ∧ H Cd = none ∧ H' Cd = some (.dK (clD rs mk rooms k)) ∧ (grA rs mk rooms k = true → k ≤ cnA rs mk rooms k))
      ⟨C0, none, none, none, none, none, rfl, same_laid hC0, hC0, upd_same, fun _ => Nat.zero_le _⟩ (fun n σ H' hq => ?_)
    obtain ⟨Cd, x6, x7, x8, x9, x10, rfl, s1, hCd0, hCd, hgr⟩ := hq
    have hcn := cnA_le rs mk rooms n
    walk_at "go"
    refine iteB (fun hg => ?_) (fun hg => ?_)
    · have hgn := hgr hg
      refine whT (by omega) ?_
      walk_at "go"
      intro N oN hN nN
      walk_at "go"
      intro R hR
      have hNR : N ≠ R := nN.old.elim fun o e => ne_of_none e hR
      have hR' : H' R = none := by
        rw [upd_ne hNR.symm] at hR
        exact hR
      walk_at "go"
      have sI : Same H' (upd (upd H' N oN) R (.dK [])) := Same.put (same_laid hN) hR'
      refine seq_for (t := false) (sI _ _ (s1 _ _ ho)) (fun i σ H3 => ∃ x8 x9 x10, σ = [some (.ref po), some (.ref pm), some (.ref pk), some (.ref Cd), some (vn (cnA rs mk rooms n)), some (.bl (grA rs mk rooms n)), some (.ref N), some (.ref R), x8, x9, x10] ∧ Same H' H3 ∧
          NDict P w H3 N (mapN (dd ((rooms.take i).map (sigA rs mk rooms n))) (numD (dd (rooms.map (sigA rs mk rooms n))))) ∧ H3 R = some (.dK (mapK (rooms.take i) fun r => vn (clsA rs mk rooms n r))))
        ⟨x8, x9, x10, rfl, sI, nN.same (same_laid hR), upd_same⟩ (fun i σ H3 _ ⟨_, _, _, _, s3, _⟩ => s3 _ _ (s1 _ _ ho)) (fun i v σ H3 hv hq => ?_) (fun σ H3 hq => ?_)
      · obtain ⟨y8, y9, y10, rfl, s3, n3, hR3⟩ := hq
        obtain ⟨r, hr1, rfl⟩ := at_map hv
        have hrm := List.mem_of_getElem? hr1
        obtain ⟨hrl, hrt⟩ := hin r hrm
        walk_at "go"
        refine i_cut (fun σ H4 => ∃ p x10, σ = [some (.ref po), some (.ref pm), some (.ref pk), some (.ref Cd), some (vn (cnA rs mk rooms n)), some (.bl (grA rs mk rooms n)), some (.ref N), some (.ref R), some (vn r), some (.ref p), x10] ∧ Same H3 H4 ∧ KeyAt H4 (sigA rs mk rooms n r) (.ref p)) ?_ (fun σ H4 hq => ?_)
        · walk_at "go"
          cases n with
          | zero =>
            refine ite_dt rfl ?_
            walk_at "go"
            refine i_ixL (s3 _ _ (s1 _ _ hk)) (v := .bl (mk r)) (atI_nat (by rw [List.getElem?_map, List.getElem?_range hrl]; rfl)) ?_
            walk_at "go"
            refine ⟨sz1, fun p hp => ?_⟩
            walk_at "go"
            exact ⟨p, _, rfl, same_laid hp, keyA0 upd_same⟩
          | succ j =>
            have hc0 := cnA_pos (rs := rs) (mk := mk) h0 j
            refine ite_df (by omega) ?_
            walk_at "go"
            obtain ⟨t, vs, a, ha, hvl, hva, hia, ti, hi2⟩ := hm.at hrl
            have hwr := hw.row_len hrl
            refine r_dget (s3 _ _ hCd) (valV_mapK_in hrm) ?_
            walk_at "go"
            refine i_ixQ (s3 _ _ (s1 _ _ ha)) hva ?_
            have ha3 := s3 _ _ (s1 _ _ hi2)
            have hlrow : (row rs r).length ≤ 1000000 := by
              have := hw.m3
              omega
            refine seq_lc ha3 (fun D hD => ⟨fun q H5 => q ≤ (row rs r).length ∧ H5 = upd H3 D (.lst (((row rs r).take q).map fun t => vn (clsA rs mk rooms j t))), ⟨Nat.zero_le _, rfl⟩, fun q H5 _ ⟨_, e⟩ => by rw [e, upd_ne (ne_of_none ha3 hD)]; exact ha3, fun q v H5 hvq hq => ?_, fun H5 hq => ?_⟩)
            · obtain ⟨_, rfl⟩ := hq
              obtain ⟨u, hu, rfl⟩ := at_map hvq
              have hq' := (List.getElem?_eq_some_iff.mp hu).1
              walk_at "go"
              refine r_dget (by rw [upd_ne (ne_of_none (s3 _ _ hCd) hD)]; exact s3 _ _ hCd) (valV_mapK_in (hrt u (List.mem_of_getElem? hu))) ?_
              exact ⟨_, upd_same, szlt (by rw [List.length_map, List.length_take]; omega), hq', upd_lst (by rw [take_at hu, List.map_append]; rfl)⟩
            · obtain ⟨_, rfl⟩ := hq
              walk_at "go"
              refine i_tupleOfL upd_same (fun TT hTT => ?_)
              walk_at "go"
              refine ⟨sz2, fun p hp => ?_⟩
              walk_at "go"
              refine ⟨p, _, rfl, ((same_laid hD).trans (same_laid hTT)).trans (same_laid hp), ?_⟩
              have e : (List.map vn (row rs r)).length = (row rs r).length := List.length_map ..
              have k1 := keyA1 (H := upd (upd (upd H3 D (.lst (((row rs r).take (List.map vn (row rs r)).length).map fun t => vn (clsA rs mk rooms j t)))) TT (.tup (((row rs r).take (List.map vn (row rs r)).length).map fun t => vn (clsA rs mk rooms j t)))) p (.tup [vn (clsA rs mk rooms j r), .ref TT])) (p := p) (q := TT) (c := clsA rs mk rooms j r) (ts := (row rs r).map (clsA rs mk rooms j)) upd_same (by
                rw [upd_ne (ne_of_none upd_same hp), upd_same, e, List.take_length, List.map_map]
                rfl)
              rw [List.map_map] at k1
              simp only [sigA]
              exact k1
        · obtain ⟨p, z10, rfl, s4, ky⟩ := hq
          refine i_cut (fun σ H5 => σ = [some (.ref po), some (.ref pm), some (.ref pk), some (.ref Cd), some (vn (cnA rs mk rooms n)), some (.bl (grA rs mk rooms n)), some (.ref N), some (.ref R), some (vn r), some (.ref p), z10] ∧ Same H' H5 ∧ KeyAt H5 (sigA rs mk rooms n r) (.ref p) ∧
            NDict P w H5 N (mapN (dd ((rooms.take (i + 1)).map (sigA rs mk rooms n))) (numD (dd (rooms.map (sigA rs mk rooms n))))) ∧ H5 R = some (.dK (mapK (rooms.take i) fun r => vn (clsA rs mk rooms n r)))) ?_ (fun σ H5 hq => ?_)
          · walk_at "go"
            have hk1 : (rooms.take (i + 1)).map (sigA rs mk rooms n) = (rooms.take i).map (sigA rs mk rooms n) ++ [sigA rs mk rooms n r] := by
              rw [take_at hr1, List.map_append]
              rfl
            have hl2 : (dd ((rooms.take i).map (sigA rs mk rooms n))).length ≤ 4000 := by
              have := len_dd ((rooms.take i).map (sigA rs mk rooms n))
              rw [List.length_map, List.length_take] at this
              omega
            have n4 := n3.same s4
            refine r_nnotin n4 ky ?_
            walk_at "go"
            by_cases hin' : sigA rs mk rooms n r ∈ dd ((rooms.take i).map (sigA rs mk rooms n))
            · rw [lookN_in hin']
              refine iteNT ?_
              walk_at "go"
              refine ⟨rfl, s3.trans s4, ky, ?_, s4 _ _ hR3⟩
              rw [hk1, dd_snoc, addN, if_pos hin']
              exact n4
            · rw [lookN_no hin']
              refine iteNF ?_
              walk_at "go"
              refine i_lenN n4 ?_
              walk_at "go"
              refine r_nput n4 ky (by rw [mapN_len]; omega) (fun o n5 => ?_)
              have hNR4 : N ≠ R := hNR
              walk_at "go"
              refine ⟨rfl, Same.put (s3.trans s4) hN, ky.kp (tkp_upd n4.nottup), ?_, by rw [upd_ne hNR.symm]; exact s4 _ _ hR3⟩
              rw [hk1, dd_snoc, addN, if_neg hin']
              rw [putN_mapN hin' ?_] at n5
              · exact n5
              · show V.int _ = V.int _
                rw [mapN_len]
                have z : (rooms.map (sigA rs mk rooms n))[i]? = some (sigA rs mk rooms n r) := map_at' hr1
                have z2 := pl_take z (by rw [← List.map_take]; exact hin')
                rw [z2, ← List.map_take]
          · obtain ⟨rfl, s5, ky5, n5, hR5⟩ := hq
            walk_at "go"
            have hnR : r ∉ rooms.take i := fun z => by
              obtain ⟨q, hq1, hq2⟩ := List.mem_iff_getElem.mp z
              rw [List.length_take] at hq1
              rw [List.getElem_take] at hq2
              obtain ⟨hi1, hi2⟩ := List.getElem?_eq_some_iff.mp hr1
              exact List.pairwise_iff_getElem.mp hnd q i (by omega) hi1 (by omega) (hq2.trans hi2.symm)
            refine r_nget n5 ky5 (lookN_in (by rw [mem_dd, take_at hr1, List.map_append]; exact List.mem_append_right _ (List.mem_singleton.mpr rfl))) ?_
            walk_at "go"
            refine r_dput hR5 (by rw [mapK_len, List.length_take]; omega) ?_
            refine ⟨_, _, _, rfl, Same.put s5 hR', n5.upd hNR (by intro vs; rw [hR5]; intro z; cases z), ?_⟩
            rw [upd_same, take_at hr1, putK_mapK hnR]
            rw [clsA_eq]
            rfl
      · obtain ⟨y8, y9, y10, rfl, s3, n3, hR3⟩ := hq
        walk_at "go"
        refine i_lenN n3 ?_
        walk_at "go"
        refine i_lenN n3 ?_
        walk_at "go"
        have e1 : (mapN (dd ((rooms.take (List.map vn rooms).length).map (sigA rs mk rooms n))) (numD (dd (rooms.map (sigA rs mk rooms n))))).length = cnA rs mk rooms (n + 1) := by
          rw [mapN_len, List.length_map, List.take_length]
          rfl
        rw [e1]
        have hgr1 : grA rs mk rooms (n + 1) = decide ((cnA rs mk rooms n : Int) < (cnA rs mk rooms (n + 1) : Int)) := by
          show decide (cnA rs mk rooms n < cnA rs mk rooms (n + 1)) = _
          by_cases h : cnA rs mk rooms n < cnA rs mk rooms (n + 1)
          · rw [decide_eq_true h, decide_eq_true (by omega)]
          · rw [decide_eq_false h, decide_eq_false (by omega)]
        refine ⟨R, some (.ref N), some (.ref R), y8, y9, y10, ?_, s1.trans s3, ?_, ?_, ?_⟩
        · rw [hgr1]
          rfl
        · cases e : H R with
          | none => rfl
          | some o => rw [s1 _ _ e] at hR'; cases hR'
        · rw [hR3, List.length_map, List.take_length]
          rfl
        · rw [hgr1]
          intro z
          have := of_decide_eq_true z
          omega
    · walk_at "go"
      cases n with
      | zero => cases hg
      | succ n =>
        have hle : cnA rs mk rooms (n + 1) ≤ cnA rs mk rooms n := Nat.le_of_not_lt (of_decide_eq_false hg)
        cases n with
        | zero => 
          have z1 := cnA_pos (rs := rs) (mk := mk) h0 0
          have z2 : cnA rs mk rooms 0 = 0 := rfl
          omega
        | succ j => exact k j Cd _ hle s1 hCd0 hCd
end
abbrev s_least_table : Stmt := top 27
theorem sc_least_table : FnScope ["moves", "marks", "rooms", "classes", "numbers", "heads", "room", "least_moves", "target"] ["moves", "marks"] (fnScope s_least_table) := ⟨rfl, rfl, rfl, by decide +kernel, rfl, by decide +kernel, by decide +kernel⟩
def sp_least_table : Sp := fun vs H Q _ => ∃ (Z : AS) (pm pk : Addr) (rs : Rws) (mk : Nat → Bool) (m : Nat), vs = [.ref pm, .ref pk] ∧ Rows Z H pm rs ∧ H pk = some (.lst ((List.range rs.length).map fun r => .bl (mk r))) ∧ WFB m rs ∧
  ∀ j i o g a b c H', o = scanAt rs i → o.length = i → cnt o (sigA rs mk o (j + 1)) ≤ cnt o (sigA rs mk o j) → g = clsA rs mk o (j + 1) → Same H H' → H' a = some (.tup [.ref b, .ref c]) → H a = none → RowsT (Old H) H' b (lrows rs o g) → H' c = some (.tup ((lmarks mk o g).map V.bl)) → Q (.ref a) H'
section
variable {P : Program} {w : World} {K : PySem.W.Frag} {mg : Str → Option Value} {base : Heap} {C : Addr} {r : Er}
set_option maxHeartbeats 4000000 in
theorem ok_least_table {f : Addr} {fd : FuncData} (F : Def K mg "least_table" s_least_table f fd) (T : Txt K mg C r) (b : Binds K fd ["moves", "marks"] []) (c_reached_rooms : Cal P w K mg base 1 "reached_rooms" sp_reached_rooms []) (c_room_classes : Cal P w K mg base 1 "room_classes" sp_room_classes []) : Cal P w K mg base 2 "least_table" (sp_least_table) [] := by
  refine cal0 F b .nil sc_least_table (fun vs H Q E h => ?_) (fun cdv A outer s H vs Q E hr h => ?_)
  · obtain ⟨_, _, _, _, _, _, rfl, _⟩ := h
    rfl
  · obtain ⟨Z, pm, pk, rs, mk, m, rfl, hm, hk, hw, k⟩ := h
    refine ⟨_, (pss_cons (ps_set (i := 2) sc_least_table.nd rfl (by first | exact Or.inl rfl | exact Or.inr rfl) (pe_c c_reached_rooms hr (by decide) rfl (pa_cons (pv 0) pa_nil)))
        (pss_cons (ps_set (i := 3) sc_least_table.nd rfl (by first | exact Or.inl rfl | exact Or.inr rfl) (pe_c c_room_classes hr (by decide) rfl (pa_cons (pv 2) (pa_cons (pv 0) (pa_cons (pv 1) pa_nil)))))
        (pss_cons (ps_set (i := 4) sc_least_table.nd rfl (by first | exact Or.inl rfl | exact Or.inr rfl) pe_dnewK)
        (pss_cons (ps_set (i := 5) sc_least_table.nd rfl (by first | exact Or.inl rfl | exact Or.inr rfl) (pe_lst pa_nil))
        (pss_cons (ps_for PassesOwn.never rfl (seqK K rfl (pv 2)) (pg_name (i := 6) sc_least_table.nd rfl (by first | exact Or.inl rfl | exact Or.inr rfl))
        (pss_one (ps_if (pt_cmp (pc_dnotin (hu_of hr) (pe_dget (hu_of hr) (pv 3) (pv 6) (fun _ _ => rfl)) (pv 4))) (pss_cons (ps_dput (hu_of hr) (pv 4) (pe_dget (hu_of hr) (pv 3) (pv 6) (fun _ _ => rfl)) (pe_callB (lenK K rfl) (by rfl) T.b_len (by decide +kernel) (pa_cons (pv 5) pa_nil)) rfl)
        (pss_one (ps_expr (bmK K rfl (pe_bm PySem.F.plainAttrs_list PySem.F.slot_list_append PySem.F.type_list_append mt_append (pv 5) (pa_cons (pv 6) pa_nil)))))) pss_nil)))
        (pss_cons (ps_set (i := 7) sc_least_table.nd rfl (by first | exact Or.inl rfl | exact Or.inr rfl) (pe_callTy (tupleK K rfl) (by rfl) T.b_tuple (by decide +kernel) (pa_cons (pe_lc (own := [("room", 6)]) rfl sc_least_table.nd (seqK K rfl (pv 5)) (blkOk_by (by kernel_rfl)) (fun _ _ _ _ _ => (pg_name (i := 6) sc_least_table.nd rfl (by first | exact Or.inl rfl | exact Or.inr rfl))) (fun _ _ _ _ _ => pts_nil) (fun _ _ _ _ _ => (pe_callTy (tupleK K rfl) (by rfl) T.b_tuple (by decide +kernel) (pa_cons (pe_lc (own := [("target", 8)]) rfl sc_least_table.nd (seqK K rfl (pe_ix (ixK K rfl) (pv 0) (pv 6) (fun _ _ => rfl))) (blkOk_by (by kernel_rfl)) (fun _ _ _ _ _ => (pg_name (i := 8) sc_least_table.nd rfl (by first | exact Or.inl rfl | exact Or.inr rfl))) (fun _ _ _ _ _ => pts_nil) (fun _ _ _ _ _ => (pe_dget (hu_of hr) (pv 4) (pe_dget (hu_of hr) (pv 3) (pv 8) (fun _ _ => rfl)) (fun _ _ => rfl)))) pa_nil)))) pa_nil)))
        (pss_one (ps_ret (pe_tup (pa_cons (pv 7) (pa_cons (pe_callTy (tupleK K rfl) (by rfl) T.b_tuple (by decide +kernel) (pa_cons (pe_lc (own := [("room", 6)]) rfl sc_least_table.nd (seqK K rfl (pv 5)) (blkOk_by (by kernel_rfl)) (fun _ _ _ _ _ => (pg_name (i := 6) sc_least_table.nd rfl (by first | exact Or.inl rfl | exact Or.inr rfl))) (fun _ _ _ _ _ => pts_nil) (fun _ _ _ _ _ => (pe_ix (ixK K rfl) (pv 1) (pv 6) (fun _ _ => rfl)))) pa_nil)) pa_nil))))))))))), ?_⟩
    walk_at "go"
    refine ⟨Z, pm, rs, m, rfl, hm, hw, fun i po H1 hi hpo s1 hpo1 => ?_⟩
    walk_at "go"
    have hsl := hw.scan_len i
    have hle := hw.le
    have hm3 := hw.m3
    have hin : ∀ r ∈ scanAt rs i, r < rs.length ∧ ∀ t ∈ row rs r, t ∈ scanAt rs i := fun r hr => ⟨hw.scan_lt i r hr, fun t ht => scan_closed (by omega) hr ht⟩
    refine ⟨Z, po, pm, pk, scanAt rs i, rs, mk, m, rfl, hpo1, hm.same s1, s1 _ _ hk, hw, by omega, scan_has0 i, scan_nd rs i, hin, fun j cd H2 hcn s2 hcd0 hcd => ?_⟩
    generalize ho : scanAt rs i = o at *
    generalize hg : clsA rs mk o (j + 1) = g at *
    walk_at "go"
    intro N hN
    walk_at "go"
    refine ⟨szl (by show 0 ≤ 16777216; decide), fun D hD => ?_⟩
    walk_at "go"
    have hND : N ≠ D := ne_of_none upd_same hD
    have hD2 : H2 D = none := by
      rw [upd_ne hND.symm] at hD
      exact hD
    have s02 := s1.trans s2
    have sI : Same H2 (upd (upd H2 N (.dK [])) D (.lst [])) := Same.put (same_laid hN) hD2
    refine seq_for (t := false) (sI _ _ (s2 _ _ hpo1)) (fun q σ H3 => ∃ x6 x7 x8, σ = [some (.ref pm), some (.ref pk), some (.ref po), some (.ref cd), some (.ref N), some (.ref D), x6, x7, x8] ∧ Same H2 H3 ∧ H3 N = some (.dK (mapK (dd ((o.take q).map g)) (numD (dd (o.map g))))) ∧ H3 D = some (.lst ((headsOf (o.take q) g).map vn)))
      ⟨none, none, none, rfl, sI, by rw [upd_ne hND, upd_same]; rfl, upd_same⟩ (fun q σ H3 _ ⟨_, _, _, _, s3, _⟩ => s3 _ _ (s2 _ _ hpo1)) (fun q v σ H3 hv hq => ?_) (fun σ H3 hq => ?_)
    · obtain ⟨x6, x7, x8, rfl, s3, hN3, hD3⟩ := hq
      obtain ⟨r, hr1, rfl⟩ := at_map hv
      have hrm := List.mem_of_getElem? hr1
      have hk1 : (o.take (q + 1)).map g = (o.take q).map g ++ [g r] := by
        rw [take_at hr1, List.map_append]
        rfl
      have hl2 : (dd ((o.take q).map g)).length ≤ 4000 := by
        have := len_dd ((o.take q).map g)
        rw [List.length_map, List.length_take] at this
        omega
      have hmm : ∀ x, x ∈ (headsOf (o.take q) g).map g ↔ x ∈ dd ((o.take q).map g) := fun x => by rw [heads_map]
      walk_at "go"
      refine r_dget (s3 _ _ hcd) (valV_mapK_in hrm) ?_
      walk_at "go"
      refine r_dnotin hN3 ?_
      walk_at "go"
      by_cases hin' : g r ∈ dd ((o.take q).map g)
      · rw [valV_mapK_in hin']
        refine iteNT ?_
        walk_at "go"
        refine ⟨_, _, _, rfl, s3, ?_, ?_⟩
        · rw [hk1, dd_snoc, addN, if_pos hin']
          exact hN3
        · rw [take_at hr1, headsOf_snoc, if_pos ((hmm _).mpr hin')]
          exact hD3
      · rw [valV_mapK_no hin']
        refine iteNF ?_
        walk_at "go"
        refine r_dget (s3 _ _ hcd) (valV_mapK_in hrm) ?_
        refine r_dput hN3 (by rw [mapK_len]; omega) ?_
        walk_at "go"
        have hDN : D ≠ N := hND.symm
        refine i_append (xs := (headsOf (o.take q) g).map vn) (by rw [upd_ne hDN]; exact hD3) (by rw [List.length_map, heads_len]; omega) ?_
        walk_at "go"
        refine ⟨_, _, _, rfl, Same.put (Same.put s3 hN) hD2, ?_, ?_⟩
        · rw [upd_ne hND, upd_same, hk1, dd_snoc, addN, if_neg hin', putK_mapK hin' ?_]
          rw [List.length_map, heads_len]
          have z2 := pl_take (map_at' (f := g) hr1) (by rw [← List.map_take]; exact hin')
          show V.int _ = V.int _
          rw [z2, ← List.map_take]
        · rw [upd_same, take_at hr1, headsOf_snoc, if_neg (fun z => hin' ((hmm _).mp z)), List.map_append]
          rfl
    · obtain ⟨x6, x7, x8, rfl, s3, hN3, hD3⟩ := hq
      have el : (List.map vn o).length = o.length := List.length_map ..
      rw [el, List.take_length] at hN3 hD3
      have hhl : (headsOf o g).length ≤ 4000 := by
        rw [heads_len]
        have := len_dd (o.map g)
        rw [List.length_map] at this
        omega
      have s03 := s02.trans s3
      walk_at "go"
      refine seq_lc (t := false) hD3 (fun E hE => ⟨fun q H4 => Same H3 H4 ∧ ∃ bs, H4 E = some (.lst (bs.map V.ref)) ∧ Paired (fun a r => IntsT (Old H) H4 a r) bs ((lrows rs o g).take q), ⟨same_laid hE, [], upd_same, by simp; exact .nil⟩, fun q H4 _ ⟨e, _⟩ => e _ _ hD3, fun q v H4 hvq hq => ?_, fun H4 hq => ?_⟩)
      · obtain ⟨s4, bs, hE4, hbs⟩ := hq
        obtain ⟨h, hh, rfl⟩ := at_map hvq
        have hho : h ∈ o := heads_mem (List.mem_of_getElem? hh)
        obtain ⟨hhl1, hht⟩ := hin h hho
        obtain ⟨t, vs, a, ha, hvl, hva, hia, ti, hi2⟩ := hm.at hhl1
        have hq' := (List.getElem?_eq_some_iff.mp hh).1
        have hwr := hw.row_len hhl1
        have s04 := s03.trans s4
        walk_at "go"
        refine i_ixQ (s04 _ _ ha) hva ?_
        have ha4 := s04 _ _ hi2
        refine seq_lc ha4 (fun F hF => ⟨fun q H5 => q ≤ (row rs h).length ∧ H5 = upd H4 F (.lst (((row rs h).take q).map fun t => vn (num o g t))), ⟨Nat.zero_le _, rfl⟩, fun q H5 _ ⟨_, e⟩ => by rw [e, upd_ne (ne_of_none ha4 hF)]; exact ha4, fun q v H5 hvq hq => ?_, fun H5 hq => ?_⟩)
        · obtain ⟨_, rfl⟩ := hq
          obtain ⟨u, hu, rfl⟩ := at_map hvq
          have hq2 := (List.getElem?_eq_some_iff.mp hu).1
          have huo := hht u (List.mem_of_getElem? hu)
          have hcd4 := s4 _ _ (s3 _ _ hcd)
          have hN4 := s4 _ _ hN3
          walk_at "go"
          refine r_dget (by rw [upd_ne (ne_of_none hcd4 hF)]; exact hcd4) (valV_mapK_in huo) ?_
          refine r_dget (by rw [upd_ne (ne_of_none hN4 hF)]; exact hN4) (valV_mapK_in (mem_dd.mpr (List.mem_map.mpr ⟨u, huo, rfl⟩))) ?_
          exact ⟨_, upd_same, szlt (by rw [List.length_map, List.length_take]; omega), hq2, upd_lst (by rw [take_at hu, List.map_append]; rfl)⟩
        · obtain ⟨_, rfl⟩ := hq
          walk_at "go"
          refine i_tupleOfL upd_same (fun TT hTT => ?_)
          have hF0 := same_free s4 hF
          have sF : Same H4 (upd (upd H4 F (.lst (((row rs h).take (List.map vn (row rs h)).length).map fun t => vn (num o g t)))) TT (.tup (((row rs h).take (List.map vn (row rs h)).length).map fun t => vn (num o g t)))) := (same_laid hF).trans (same_laid hTT)
          have hTE : TT ≠ E := (ne_of_none (sF _ _ hE4 |> fun z => (show upd H4 F _ E = _ from by rw [upd_ne (ne_of_none hE4 hF)]; exact hE4)) hTT).symm
          have hTH : H TT = none := same_free ((s04.trans (same_laid hF))) hTT
          refine ⟨bs.map V.ref, sF _ _ hE4, szlt (by rw [List.length_map, hbs.length, List.length_take]; unfold lrows; rw [List.length_map]; omega), Same.put (s4.trans sF) hE, bs ++ [TT], by rw [upd_same, List.map_append]; rfl, ?_⟩
          have hrw : (lrows rs o g)[q]? = some ((row rs h).map (num o g)) := map_at' hh
          rw [take_at hrw]
          refine U.Paired.snoc (Paired.mapP hbs fun b r z => ⟨z.1, ?_⟩) ⟨Old.none hTH, ?_⟩
          · have hbE : b ≠ E := fun e => by
              have z2 := z.2
              rw [e, hE4] at z2
              cases z2
            rw [upd_ne hbE]
            exact sF _ _ z.2
          · rw [upd_ne hTE, upd_same]
            have e : (List.map vn (row rs h)).length = (row rs h).length := List.length_map ..
            rw [e, List.take_length, List.map_map]
            rfl
      · obtain ⟨s4, bs, hE4, hbs⟩ := hq
        walk_at "go"
        refine i_tupleOfL hE4 (fun b hb => ?_)
        walk_at "go"
        have s5 : Same H4 (upd H4 b (.tup (bs.map V.ref))) := same_laid hb
        have hhl' : (List.map vn (headsOf o g)).length = (lrows rs o g).length := by
          unfold lrows
          rw [List.length_map, List.length_map]
        rw [hhl', List.take_length] at hbs
        have hD5 := s5 _ _ (s4 _ _ hD3)
        refine seq_lc (t := false) hD5 (fun G hG => ⟨fun q H6 => q ≤ (headsOf o g).length ∧ H6 = upd (upd H4 b (.tup (bs.map V.ref))) G (.lst (((headsOf o g).take q).map fun r => .bl (mk r))), ⟨Nat.zero_le _, rfl⟩, fun q H6 _ ⟨_, e⟩ => by rw [e, upd_ne (ne_of_none hD5 hG)]; exact hD5, fun q v H6 hvq hq => ?_, fun H6 hq => ?_⟩)
        · obtain ⟨_, rfl⟩ := hq
          obtain ⟨h, hh, rfl⟩ := at_map hvq
          have hho : h ∈ o := heads_mem (List.mem_of_getElem? hh)
          obtain ⟨hhl1, hht⟩ := hin h hho
          have hq' := (List.getElem?_eq_some_iff.mp hh).1
          have hk5 := s5 _ _ (s4 _ _ (s03 _ _ hk))
          walk_at "go"
          refine i_ixL (by rw [upd_ne (ne_of_none hk5 hG)]; exact hk5) (v := .bl (mk h)) (atI_nat (by rw [List.getElem?_map, List.getElem?_range hhl1]; rfl)) ?_
          exact ⟨_, upd_same, szlt (by rw [List.length_map, List.length_take]; omega), hq', upd_lst (by rw [take_at hh, List.map_append]; rfl)⟩
        · obtain ⟨_, rfl⟩ := hq
          walk_at "go"
          refine i_tupleOfL upd_same (fun c hc => ?_)
          refine ⟨sz2, fun a ha => ?_⟩
          have s6 : Same (upd H4 b (.tup (bs.map V.ref))) (upd (upd (upd H4 b (.tup (bs.map V.ref))) G (.lst (((headsOf o g).take (List.map vn (headsOf o g)).length).map fun r => .bl (mk r)))) c (.tup (((headsOf o g).take (List.map vn (headsOf o g)).length).map fun r => .bl (mk r)))) := (same_laid hG).trans (same_laid hc)
          have s7 := (s6.trans (same_laid (o := .tup [.ref b, .ref c]) ha))
          have s08 := (s03.trans s4).trans s5
          refine k j i o g a b c _ ho.symm (by omega) hcn hg.symm (s08.trans s7) upd_same (same_free (s08.trans s6) ha) ?_ ?_
          · refine ⟨Old.none (same_free (s03.trans s4) hb), bs, s7 _ _ upd_same, Paired.mapP hbs fun x r z => z.same (s5.trans s7)⟩
          · rw [upd_ne (ne_of_none upd_same ha), upd_same]
            have e : (List.map vn (headsOf o g)).length = (headsOf o g).length := List.length_map ..
            rw [e, List.take_length]
            unfold lmarks
            rw [List.map_map]
            rfl
end
abbrev s_reader_of_table : Stmt := top 37
theorem sc_reader_of_table : FnScope ["alphabet", "moves", "marks", "least_moves", "least_marks", "room"] ["alphabet", "moves", "marks"] (fnScope s_reader_of_table) := ⟨rfl, rfl, rfl, by decide +kernel, rfl, by decide +kernel, by decide +kernel⟩
def sp_reader_of_table (C : Addr) (r : Er) : Sp := fun vs H Q E => ∃ (Z : AS) (al : List Nat) (pm pk : Addr) (rs : Rws) (mk : Nat → Bool), vs = [.str (SX.S al), .ref pm, .ref pk] ∧ Rows Z H pm rs ∧ H pk = some (.lst ((List.range rs.length).map fun r => .bl (mk r))) ∧ AlOk al ∧ WFB al.length rs ∧
  ∀ j i o g, o = scanAt rs i → o.length = i → cnt o (sigA rs mk o (j + 1)) ≤ cnt o (sigA rs mk o j) → g = clsA rs mk o (j + 1) → ((lrows rs o g).length ≤ 60 → ∀ p H', Same H H' → H p = none → Rd C (Old H) H' p al (lrows rs o g) (lgood mk o g) → Q (.ref p) H') ∧
    (60 < (lrows rs o g).length → ∀ d H', Same H H' → H d = none → H' d = some (.xd [("what", .str "room")]) → E (.ref r.TooMany) (some d) H')
section
variable {P : Program} {w : World} {K : PySem.W.Frag} {mg : Str → Option Value} {base : Heap} {C : Addr} {r : Er}
set_option maxHeartbeats 4000000 in
theorem ok_reader_of_table {f : Addr} {fd : FuncData} (F : C8.Def K mg "reader_of_table" s_reader_of_table f fd) (T : Txt K mg C r) (b : Binds K fd ["alphabet", "moves", "marks"] []) (c_least_table : Cal P w K mg base 2 "least_table" sp_least_table []) (m_Reader : Mak P w K mg base 3 "Reader" C (sp_Readerd_initd C) []) (e_TooMany : MakE P w K mg base "TooMany" r.TooMany r.TooMany "what" FmtOk) : CalX P w K mg base 5 "reader_of_table" (sp_reader_of_table C r) := by
  refine calX F b sc_reader_of_table (fun vs H Q E h => ?_) (fun cdv A outer s H vs Q E hr h => ?_)
  · obtain ⟨_, _, _, _, _, _, rfl, _⟩ := h
    rfl
  · obtain ⟨Z, al, pm, pk, rs, mk, rfl, hm, hk, ha, hw, k⟩ := h
    refine ⟨_, (pss_cons (PS_nox (ps_asg (pe_c c_least_table hr (by decide) rfl (pa_cons (pv 1) (pa_cons (pv 2) pa_nil))) (pg_tup rfl (pgs_cons (pg_name (i := 3) sc_reader_of_table.nd rfl (by first | exact Or.inl rfl | exact Or.inr rfl)) (pgs_cons (pg_name (i := 4) sc_reader_of_table.nd rfl (by first | exact Or.inl rfl | exact Or.inr rfl)) pgs_nil)))))
        (pss_cons (ps_if (pt_cmpR op_gt (pe_callB (lenK K rfl) (by rfl) T.b_len (by decide +kernel) (pa_cons (pv 3) pa_nil)) (pe_gc rfl T.c_MOST_ROOMS) (nomark _)) (pss_one (ps_raiseE rfl (takes_of rfl rfl rfl rfl) e_TooMany hr (by decide) rfl (pa_cons pe_str pa_nil))) pss_nil)
        (pss_one (PS_nox (ps_ret (pe_mk m_Reader hr (by decide) rfl (pa_cons (pv 0) (pa_cons (pv 3) (pa_cons (pe_lc (own := [("room", 5)]) rfl sc_reader_of_table.nd (pi_range1 (by rfl) T.b_range (pa_cons (pe_callB (lenK K rfl) (by rfl) T.b_len (by decide +kernel) (pa_cons (pv 3) pa_nil)) pa_nil)) (blkOk_by (by kernel_rfl)) (fun _ _ _ _ _ => (pg_name (i := 5) sc_reader_of_table.nd rfl (by first | exact Or.inl rfl | exact Or.inr rfl))) (fun _ _ _ _ _ => (pts_one (pt_val (pe_ix (ixK K rfl) (pv 4) (pv 5) (fun _ _ => rfl))))) (fun _ _ _ _ _ => (pv 5))) pa_nil))))))))), ?_⟩
    walk_at "go"
    refine ⟨Z, pm, pk, rs, mk, al.length, rfl, hm, hk, hw, fun j i o g a b c H1 ho hi0 hcn hg s1 ha1 ha0 hb hc => ?_⟩
    walk_at "go"
    obtain ⟨vs, hv, hvl⟩ := hb.len
    have hwB : WFB al.length (lrows rs o g) := by rw [ho]; exact hw.lrows (by rw [← ho]; exact hi0) g
    have hleB := hwB.le
    obtain ⟨k1, k2⟩ := k j i o g ho hi0 hcn hg
    refine i_lenT hv ?_
    walk_at "go"
    refine iteD (fun hx => ?_) (fun hx => ?_)
    · walk_at "go"
      refine mkE_end e_TooMany.ic (.inl ⟨"room", rfl, by decide⟩) (fun d hd => ?_)
      exact k2 (by have : (60 : Int) < _ := hx; omega) d _ (s1.trans (same_laid hd)) (same_free s1 hd) upd_same
    have hle : (lrows rs o g).length ≤ 60 := by
      have : ¬ (60 : Int) < _ := hx
      omega
    have hw' : WF al.length (lrows rs o g) := ⟨hwB, hle⟩
    walk_at "go"
    refine ⟨by omega, by omega, fun D hD => ?_⟩
    rw [Int.toNat_natCast, hvl]
    refine rng0_lc (fun q H' => q ≤ (lrows rs o g).length ∧ H' = upd H1 D (.lst (((List.range q).filter fun r => (lmarks mk o g).getD r false).map vn))) ⟨Nat.zero_le _, rfl⟩ (fun q H' hi hq => ?_) (fun H' hq => ?_)
    · obtain ⟨_, rfl⟩ := hq
      have hlm : (lmarks mk o g).length = (lrows rs o g).length := by
        unfold lmarks lrows
        rw [List.length_map, List.length_map]
      walk_at "go"
      have hat : (lmarks mk o g)[q]? = some ((lmarks mk o g).getD q false) := by
        rw [List.getD_eq_getElem?_getD, List.getElem?_eq_getElem (by omega)]
        rfl
      refine i_ixT (by rw [upd_ne (ne_of_none hc hD)]; exact hc) (atI_nat (map_at hat)) ?_
      walk_at "go"
      have hlq : (((List.range q).filter fun r => (lmarks mk o g).getD r false).map vn).length < 16777216 := by
        rw [List.length_map]
        have := List.length_filter_le (fun r => (lmarks mk o g).getD r false) (List.range q)
        rw [List.length_range] at this
        omega
      refine iteB (fun hb => ?_) (fun hb => ?_)
      · walk_at "go"
        exact ⟨_, upd_same, szlt hlq, hi, upd_lst (by rw [range_filter_t hb, List.map_append]; rfl)⟩
      · exact ⟨hi, by rw [range_filter_f hb]⟩
    · obtain ⟨_, rfl⟩ := hq
      walk_at "go"
      intro x dx hx hdx hne
      have s2 : Same H1 (upd H1 D (.lst (((List.range (lrows rs o g).length).filter fun r => (lmarks mk o g).getD r false).map vn))) := same_laid hD
      have s3 : Same (upd H1 D (.lst (((List.range (lrows rs o g).length).filter fun r => (lmarks mk o g).getD r false).map vn))) (upd (upd (upd H1 D (.lst (((List.range (lrows rs o g).length).filter fun r => (lmarks mk o g).getD r false).map vn))) dx (.own x)) x (.ins C dx [])) := (same_laid hdx).trans (same_laid (by rw [upd_ne hne.symm]; exact hx))
      have s03 := (s1.trans s2).trans s3
      have hDx : D ≠ x := ne_of_none upd_same hx
      have hDdx : D ≠ dx := ne_of_none upd_same hdx
      have hgl : (lgood mk o g) = ((List.range (lrows rs o g).length).filter fun r => (lmarks mk o g).getD r false) := by
        unfold lgood
        rw [lrows_len]
      refine ⟨Old H, x, dx, al, b, lrows rs o g, D, lgood mk o g, rfl, fun q hq => let ⟨u, hu⟩ := hq; ⟨u, s03 _ _ hu⟩, upd_same, ha, (hb.same (s2.trans s3)).rows, ⟨Old.none (same_free s1 hD), false, ?_⟩, hw', ?_, fun H' qm qg kk h1 h2 h3 => ⟨rfl, ?_⟩⟩
      · rw [upd_ne hDx, upd_ne hDdx, upd_same, hgl]
        rfl
      · rw [hgl]
        exact GOK.filter _
      · exact k1 hle x H' ((s1.trans s2).trans (made_same hx hdx kk)) (same_free (s1.trans s2) hx) ⟨Old.none (same_free (s1.trans s2) hx), dx, qm, qg, h1, h2, h3⟩
end
abbrev s_check_same_letters : Stmt := top 38
theorem sc_check_same_letters : FnScope ["one", "other"] ["one", "other"] (fnScope s_check_same_letters) := ⟨rfl, rfl, rfl, by decide +kernel, rfl, by decide +kernel, by decide +kernel⟩
def sp_check_same_letters (C : Addr) (r : Er) : Sp := fun vs H Q E => ∃ (Z : AS) (p q : Addr) (al : List Nat) (rs : Rws) (gd : List Nat) (bl : List Nat) (rs' : Rws) (gd' : List Nat), vs = [.ref p, .ref q] ∧ Rd C Z H p al rs gd ∧ Rd C Z H q bl rs' gd' ∧ (al = bl → Q .non H) ∧
  (al ≠ bl → ∀ d H', Same H H' → H d = none → H' d = some (.xd [("what", .str "alphabet")]) → E (.ref r.Unlike) (some d) H')
section
variable {P : Program} {w : World} {K : PySem.W.Frag} {mg : Str → Option Value} {base : Heap} {C : Addr} {r : Er}
set_option maxHeartbeats 4000000 in
theorem ok_check_same_letters {f : Addr} {fd : FuncData} (F : C8.Def K mg "check_same_letters" s_check_same_letters f fd) (T : Txt K mg C r) (b : Binds K fd ["one", "other"] []) (e_Unlike : MakE P w K mg base "Unlike" r.Unlike r.Unlike "what" FmtOk) : CalX P w K mg base 4 "check_same_letters" (sp_check_same_letters C r) := by
  refine calX F b sc_check_same_letters (fun vs H Q E h => ?_) (fun cdv A outer s H vs Q E hr h => ?_)
  · obtain ⟨_, _, _, _, _, _, _, _, _, rfl, _⟩ := h
    rfl
  · obtain ⟨Z, p, q, al, rs, gd, bl, rs', gd', rfl, hp, hq, k1, k2⟩ := h
    refine ⟨_, (pss_one (ps_if (pt_cmpR op_ne (fldK K rfl (pv 0) rfl) (fldK K rfl (pv 1) rfl) (nomark _)) (pss_one (ps_raiseE rfl (takes_of rfl rfl rfl rfl) e_Unlike hr (by decide) rfl (pa_cons pe_str pa_nil))) pss_nil)), ?_⟩
    walk_at "go"
    obtain ⟨hpZ, dx, pm, pg, hp1, hp2, hp3⟩ := hp
    obtain ⟨hqZ, dy, qm, qg, hq1, hq2, hq3⟩ := hq
    refine i_fldR hp1 T.cl T.nA (flds_al al pm pg) ?_
    walk_at "go"
    refine i_fldR hq1 T.cl T.nA (flds_al bl qm qg) ?_
    walk_at "go"
    refine iteDN (fun hx => ?_) (fun hx => ?_)
    · walk_at "go"
      refine mkE_end e_Unlike.ic (.inl ⟨"alphabet", rfl, by decide⟩) (fun d hd => ?_)
      exact k2 (fun e => hx (by rw [e])) d _ (same_laid hd) hd upd_same
    · walk_at "go"
      exact k1 (SX_inj hx)
end
abbrev s_met : Stmt := top 39
theorem sc_met : FnScope ["one", "other", "wanted", "rooms", "moves", "first", "second", "marks", "a", "b"] ["one", "other", "wanted"] (fnScope s_met) := ⟨rfl, rfl, rfl, by decide +kernel, rfl, by decide +kernel, by decide +kernel⟩
/-- whether a text is wanted by where it leads in both -/
def jf (gA gB W : List Nat) (pr : Nat × Nat) : Bool := decide (((if pr.1 ∈ gA then 1 else 0) + (if pr.2 ∈ gB then 2 else 0)) ∈ W)
/-- how a reader of a table comes out -/
def Outs (C : Addr) (r : Er) (al : List Nat) (J : Rws) (gd : List Nat) (H : Hp) (Q : VK) (E : XK) : Prop :=
  (∀ A gA, LeastOf J gd A gA → A.length ≤ 60 → ∀ p H', Same H H' → H p = none → Rd C (Old H) H' p al A gA → Q (.ref p) H') ∧
  (∀ A gA, LeastOf J gd A gA → 60 < A.length → ∀ d H', Same H H' → H d = none → H' d = some (.xd [("what", .str "room")]) → E (.ref r.TooMany) (some d) H')
def jGood (m : Nat) (A B : Rws) (gA gB W : List Nat) (k : Nat) : List Nat := gGood (jf gA gB W) (0, 0) (jAt m A B k)
def sp_met (C : Addr) (r : Er) : Sp := fun vs H Q E => ∃ (Z : AS) (p q pw : Addr) (al : List Nat) (rs : Rws) (gd : List Nat) (bl : List Nat) (rs' : Rws) (gd' : List Nat) (W : List Nat), vs = [.ref p, .ref q, .ref pw] ∧ Rd C Z H p al rs gd ∧ Rd C Z H q bl rs' gd' ∧ H pw = some (.tup (W.map vn)) ∧ AlOk al ∧ WF al.length rs ∧ WF bl.length rs' ∧
  (al = bl → ∀ k, Done (jn al.length rs rs') (0, 0) k → Outs C r al (gRows (jn al.length rs rs') (jAt al.length rs rs' k)) (jGood al.length rs rs' gd gd' W k) H Q E) ∧
  (al ≠ bl → ∀ d H', Same H H' → H d = none → H' d = some (.xd [("what", .str "alphabet")]) → E (.ref r.Unlike) (some d) H')
section
variable {P : Program} {w : World} {K : PySem.W.Frag} {mg : Str → Option Value} {base : Heap} {C : Addr} {r : Er}
set_option maxHeartbeats 4000000 in
theorem ok_met {f : Addr} {fd : FuncData} (F : C8.Def K mg "met" s_met f fd) (T : Txt K mg C r) (b : Binds K fd ["one", "other", "wanted"] []) (c_check_same_letters : CalX P w K mg base 4 "check_same_letters" (sp_check_same_letters C r)) (c_joint_table : Cal P w K mg base 1 "joint_table" sp_joint_table []) (c_good_marks : Cal P w K mg base 1 "good_marks" (sp_good_marks C) []) (c_reader_of_table : CalX P w K mg base 5 "reader_of_table" (sp_reader_of_table C r)) : CalX P w K mg base 6 "met" (sp_met C r) := by
  refine calX F b sc_met (fun vs H Q E h => ?_) (fun cdv A outer s H vs Q E hr h => ?_)
  · obtain ⟨_, _, _, _, _, _, _, _, _, _, _, rfl, _⟩ := h
    rfl
  · obtain ⟨Z, p, q, pw, al, rs, gd, bl, rs', gd', W, rfl, hp, hq, hpw, ha, hw, hw', k1, k2⟩ := h
    refine ⟨_, (pss_cons (ps_expr (pe_cX c_check_same_letters hr (by decide) (takes_of rfl rfl rfl rfl) rfl (pa_cons (pv 0) (pa_cons (pv 1) pa_nil))))
        (pss_cons (PS_nox (ps_asg (pe_c c_joint_table hr (by decide) rfl (pa_cons (fldK K rfl (pv 0) rfl) (pa_cons (fldK K rfl (pv 1) rfl) pa_nil))) (pg_tup rfl (pgs_cons (pg_name (i := 3) sc_met.nd rfl (by first | exact Or.inl rfl | exact Or.inr rfl)) (pgs_cons (pg_name (i := 4) sc_met.nd rfl (by first | exact Or.inl rfl | exact Or.inr rfl)) pgs_nil)))))
        (pss_cons (PS_nox (ps_set (i := 5) sc_met.nd rfl (by first | exact Or.inl rfl | exact Or.inr rfl) (pe_c c_good_marks hr (by decide) rfl (pa_cons (pv 0) pa_nil))))
        (pss_cons (PS_nox (ps_set (i := 6) sc_met.nd rfl (by first | exact Or.inl rfl | exact Or.inr rfl) (pe_c c_good_marks hr (by decide) rfl (pa_cons (pv 1) pa_nil))))
        (pss_cons (PS_nox (ps_setLc (i := 7) (own := [("a", 8), ("b", 9)]) rfl sc_met.nd rfl rfl (sw_true rfl rfl rfl (by decide +kernel)) (seqK K rfl (pv 3)) (blkOk_by (by kernel_rfl)) (fun _ _ _ _ _ => (pgTupK (n := 2) K rfl rfl (pgs_cons (pg_name (i := 8) sc_met.nd rfl (by first | exact Or.inl rfl | exact Or.inr rfl)) (pgs_cons (pg_name (i := 9) sc_met.nd rfl (by first | exact Or.inl rfl | exact Or.inr rfl)) pgs_nil)))) (fun _ _ _ _ _ => pts_nil) (fun _ _ _ _ _ => (pe_cmpR (inK K rfl) (pe_op op_add (pe_ifExp (pt_val (pe_ix (ixK K rfl) (pv 5) (pv 8) (fun _ _ => rfl))) pe_int pe_int) (pe_ifExp (pt_val (pe_ix (ixK K rfl) (pv 6) (pv 9) (fun _ _ => rfl))) pe_int pe_int)) (pv 2) rfl))))
        (pss_one (ps_ret (pe_cX c_reader_of_table hr (by decide) (takes_of rfl rfl rfl rfl) rfl (pa_cons (fldK K rfl (pv 0) rfl) (pa_cons (pv 4) (pa_cons (pv 7) pa_nil))))))))))), ?_⟩
    walk_at "go"
    refine ⟨Z, p, q, al, rs, gd, bl, rs', gd', rfl, hp, hq, fun hab => ?_, k2⟩
    subst hab
    have hp0 := hp
    have hq0 := hq
    obtain ⟨hpZ, dx, pm, pg, hp1, hp2, hp3⟩ := hp
    obtain ⟨hqZ, dy, qm, qg, hq1, hq2, hq3⟩ := hq
    have hle := hw.le
    have hle' := hw'.le
    walk_at "go"
    refine i_fldR hp1 T.cl T.nM (flds_mo al pm pg) ?_
    walk_at "go"
    refine i_fldR hq1 T.cl T.nM (flds_mo al qm qg) ?_
    walk_at "go"
    refine ⟨Z, pm, qm, rs, rs', al.length, rfl, hp2.rows, hq2.rows, hw, hw', fun k a O M bs H1 hdone s1 ha0 ha1 hO1 hPr1 hM1 => ?_⟩
    have hlt := j_lt hw.b hw'.b k
    have hplen : (jAt al.length rs rs' k).length ≤ rs.length * rs'.length := pairs_len (g_nd (nx := jn al.length rs rs') (s := (0, 0)) k) hlt
    have hnm : rs.length * rs'.length ≤ 3600 := Nat.mul_le_mul hle hle'
    walk_at "go"
    refine ⟨Z, p, al, rs, gd, rfl, hp0.same s1, by omega, fun F H2 s2 hF0 hF2 => ?_⟩
    walk_at "go"
    refine ⟨Z, q, al, rs', gd', rfl, hq0.same (s1.trans s2), by omega, fun G H3 s3 hG0 hG3 => ?_⟩
    walk_at "go"
    have s13 := s2.trans s3
    have hO3 := s13 _ _ hO1
    have hPr3 := hPr1.same s13
    have hF3 := s3 _ _ hF2
    have hpw3 := (s1.trans s13) _ _ hpw
    have hbl := hPr3.length
    refine seq_lc (t := false) hO3 (fun D hD => ⟨fun i H4 => ∃ c, c = bs.length ∧ i ≤ c ∧ H4 = upd H3 D (.lst (((jAt al.length rs rs' k).take i).map fun pr => .bl (jf gd gd' W pr))), ⟨_, rfl, Nat.zero_le _, rfl⟩, fun i H4 _ ⟨_, _, _, e⟩ => by rw [e, upd_ne (ne_of_none hO3 hD)]; exact hO3, fun i v H4 hv hz => ?_, fun H4 hz => ?_⟩)
    · obtain ⟨c, rfl, _, rfl⟩ := hz
      obtain ⟨b, hb, rfl⟩ := at_map hv
      obtain ⟨pr, hpr, hbt⟩ := Paired.at0 hPr3 hb
      obtain ⟨hpa, hpb⟩ := hlt pr (List.mem_of_getElem? hpr)
      have hib := (List.getElem?_eq_some_iff.mp hb).1
      have hbD : b ≠ D := ne_of_none hbt hD
      have fin : ∀ c1 c2 : Nat, c1 = (if pr.1 ∈ gd then 1 else 0) → c2 = (if pr.2 ∈ gd' then 2 else 0) → (∃ acc, (upd H3 D (.lst (((jAt al.length rs rs' k).take i).map fun pr => .bl (jf gd gd' W pr)))) D = some (.lst acc) ∧ acc.length < sizeLine ∧ ∃ c, c = bs.length ∧ i + 1 ≤ c ∧
          upd (upd H3 D (.lst (((jAt al.length rs rs' k).take i).map fun pr => .bl (jf gd gd' W pr)))) D (.lst (acc ++ [.bl (decide (c1 + c2 ∈ W))])) = upd H3 D (.lst (((jAt al.length rs rs' k).take (i + 1)).map fun pr => .bl (jf gd gd' W pr)))) := fun c1 c2 e1 e2 =>
        ⟨_, upd_same, szlt (by rw [List.length_map, List.length_take]; omega), _, rfl, hib, upd_lst (by rw [take_at hpr, List.map_append, e1, e2]; rfl)⟩
      walk_at "go"
      refine i_ixL (v := .bl (decide (pr.1 ∈ gd))) (by rw [upd_ne (ne_of_none hF3 hD)]; exact hF3) (atI_nat (by rw [List.getElem?_map, List.getElem?_range hpa]; rfl)) ?_
      have hW : ∀ n : Nat, rIn K false (.int (n : Int)) (.ref pw) (upd H3 D (.lst (((jAt al.length rs rs' k).take i).map fun pr => .bl (jf gd gd' W pr)))) = rIn K false (.int (n : Int)) (.ref pw) (upd H3 D (.lst (((jAt al.length rs rs' k).take i).map fun pr => .bl (jf gd gd' W pr)))) := fun n => rfl
      have hpwD : (upd H3 D (.lst (((jAt al.length rs rs' k).take i).map fun pr => .bl (jf gd gd' W pr)))) pw = some (sq true (W.map vn)) := by rw [upd_ne (ne_of_none hpw3 hD)]; exact hpw3
      have hGD : (upd H3 D (.lst (((jAt al.length rs rs' k).take i).map fun pr => .bl (jf gd gd' W pr)))) G = some (.lst ((List.range rs'.length).map fun r => .bl (decide (r ∈ gd')))) := by rw [upd_ne (ne_of_none hG3 hD)]; exact hG3
      walk_at "go"
      refine iteD (fun h1 => ?_) (fun h1 => ?_)
      · walk_at "go"
        refine i_ixL (v := .bl (decide (pr.2 ∈ gd'))) hGD (atI_nat (by rw [List.getElem?_map, List.getElem?_range hpb]; rfl)) ?_
        walk_at "go"
        refine iteD (fun h2 => ?_) (fun h2 => ?_)
        · walk_at "go"
          exact i_inI (n := 1 + 2) hpwD (fin 1 2 (by rw [if_pos h1]) (by rw [if_pos h2]))
        · walk_at "go"
          exact i_inI (n := 1 + 0) hpwD (fin 1 0 (by rw [if_pos h1]) (by rw [if_neg h2]))
      · walk_at "go"
        refine i_ixL (v := .bl (decide (pr.2 ∈ gd'))) hGD (atI_nat (by rw [List.getElem?_map, List.getElem?_range hpb]; rfl)) ?_
        walk_at "go"
        refine iteD (fun h2 => ?_) (fun h2 => ?_)
        · walk_at "go"
          exact i_inI (n := 0 + 2) hpwD (fin 0 2 (by rw [if_neg h1]) (by rw [if_pos h2]))
        · walk_at "go"
          exact i_inI (n := 0 + 0) hpwD (fin 0 0 (by rw [if_neg h1]) (by rw [if_neg h2]))
    · obtain ⟨c, rfl, _, rfl⟩ := hz
      walk_at "go"
      have s4 : Same H3 (upd H3 D (.lst (((jAt al.length rs rs' k).take (List.map V.ref bs).length).map fun pr => .bl (jf gd gd' W pr)))) := same_laid hD
      have s04 := (s1.trans s13).trans s4
      refine i_fldR (s04 _ _ hp1) T.cl T.nA (flds_al al pm pg) ?_
      walk_at "go"
      have hgl : (gRows (jn al.length rs rs') (jAt al.length rs rs' k)).length = (jAt al.length rs rs' k).length := gRows_len _ _
      refine ⟨Old H, al, M, D, gRows (jn al.length rs rs') (jAt al.length rs rs' k), fun r => decide (r ∈ jGood al.length rs rs' gd gd' W k), rfl, ?_, ?_, ha, gRows_wf hdone (by have := hdone.len; have h2 : (gAt (jn al.length rs rs') (0, 0) k).length ≤ rs.length * rs'.length := hplen; omega) hw.m3 (fun x _ => jn_len x), fun j i o g ho hi hc hg => ?_⟩
      · exact hM1.same (s13.trans s4)
      · rw [upd_same, hgl]
        unfold jGood
        rw [gMarks, show (List.map V.ref bs).length = (jAt al.length rs rs' k).length by rw [List.length_map, hbl], List.take_length]
      · obtain ⟨q1, q2⟩ := k1 rfl k hdone
        have hL : LeastOf (gRows (jn al.length rs rs') (jAt al.length rs rs' k)) (jGood al.length rs rs' gd gd' W k) (lrows (gRows (jn al.length rs rs') (jAt al.length rs rs' k)) o g) (lgood (fun r => decide (r ∈ jGood al.length rs rs' gd gd' W k)) o g) := ⟨j, i, o, g, ho, hi, hc, hg, rfl, rfl⟩
        exact ⟨fun hl p' H' s' hp' hr => q1 _ _ hL hl p' H' (s04.trans s') (same_free s04 hp') (hr.weak fun b hb => let ⟨u, hu⟩ := hb; ⟨u, s04 _ _ hu⟩), fun hl d H' s' hd hx => q2 _ _ hL hl d H' (s04.trans s') (same_free s04 hd) hx⟩
end
abbrev s_Readerd_andd : Stmt := inClass (top 34) 7
theorem sc_Readerd_andd : FnScope ["self", "other"] ["self", "other"] (fnScope s_Readerd_andd) := ⟨rfl, rfl, rfl, by decide +kernel, rfl, by decide +kernel, by decide +kernel⟩
def sp_op (C : Addr) (r : Er) (W : List Nat) : Sp := fun vs H Q E => ∃ (Z : AS) (p q : Addr) (al : List Nat) (rs : Rws) (gd : List Nat) (bl : List Nat) (rs' : Rws) (gd' : List Nat), vs = [.ref p, .ref q] ∧ Rd C Z H p al rs gd ∧ Rd C Z H q bl rs' gd' ∧ AlOk al ∧ WF al.length rs ∧ WF bl.length rs' ∧
  (al = bl → ∀ k, Done (jn al.length rs rs') (0, 0) k → Outs C r al (gRows (jn al.length rs rs') (jAt al.length rs rs' k)) (jGood al.length rs rs' gd gd' W k) H Q E) ∧
  (al ≠ bl → ∀ d H', Same H H' → H d = none → H' d = some (.xd [("what", .str "alphabet")]) → E (.ref r.Unlike) (some d) H')
theorem Outs.wk {C : Addr} {r : Er} {al : List Nat} {J : Rws} {gd : List Nat} {H H1 : Hp} {Q : VK} {E : XK} (h : Outs C r al J gd H Q E) (s : Same H H1) : Outs C r al J gd H1 Q E :=
  ⟨fun A gA hl h60 p H' s' hp hr => h.1 A gA hl h60 p H' (s.trans s') (same_free s hp) (hr.weak fun b hb => let ⟨u, hu⟩ := hb; ⟨u, s _ _ hu⟩), fun A gA hl h60 d H' s' hd hx => h.2 A gA hl h60 d H' (s.trans s') (same_free s hd) hx⟩
abbrev sp_Readerd_andd (C : Addr) (r : Er) : Sp := sp_op C r [3]
section
variable {P : Program} {w : World} {K : PySem.W.Frag} {mg : Str → Option Value} {base : Heap} {C : Addr} {r : Er}
set_option maxHeartbeats 4000000 in
theorem ok_Readerd_andd {f : Addr} {fd : FuncData} (F : C8.Fun K "__and__" "Reader.__and__" s_Readerd_andd f fd) (T : Txt K mg C r) (c_met : CalX P w K mg base 6 "met" (sp_met C r)) : FnOk P w K mg base (L2.CX P w) 7 f fd ["self", "other"] (sp_Readerd_andd C r) := by
  refine fnX F sc_Readerd_andd (fun vs H Q E h => ?_) (fun cdv A outer s H vs Q E hr h => ?_)
  · obtain ⟨_, _, _, _, _, _, _, _, _, rfl, _⟩ := h
    rfl
  · obtain ⟨Z, p, q, al, rs, gd, bl, rs', gd', rfl, hp, hq, ha, hw, hw', k1, k2⟩ := h
    refine ⟨_, (pss_one (ps_ret (pe_cX c_met hr (by decide) (takes_of rfl rfl rfl rfl) rfl (pa_cons (pv 0) (pa_cons (pv 1) (pa_cons (pe_tup (pa_cons pe_int pa_nil)) pa_nil)))))), ?_⟩
    walk_at "go"
    refine ⟨sz1, fun t ht => ?_⟩
    walk_at "go"
    have s1 : Same H (upd H t (.tup [.int 3])) := same_laid ht
    refine ⟨Z, p, q, t, al, rs, gd, bl, rs', gd', [3], rfl, hp.same s1, hq.same s1, upd_same, ha, hw, hw', fun e k hk => (k1 e k hk).wk s1, fun e d H' s' hd hx => k2 e d H' (s1.trans s') (same_free s1 hd) hx⟩
end
abbrev s_Readerd_ord : Stmt := inClass (top 34) 8
theorem sc_Readerd_ord : FnScope ["self", "other"] ["self", "other"] (fnScope s_Readerd_ord) := ⟨rfl, rfl, rfl, by decide +kernel, rfl, by decide +kernel, by decide +kernel⟩
abbrev sp_Readerd_ord (C : Addr) (r : Er) : Sp := sp_op C r [1, 2, 3]
section
variable {P : Program} {w : World} {K : PySem.W.Frag} {mg : Str → Option Value} {base : Heap} {C : Addr} {r : Er}
set_option maxHeartbeats 4000000 in
theorem ok_Readerd_ord {f : Addr} {fd : FuncData} (F : C8.Fun K "__or__" "Reader.__or__" s_Readerd_ord f fd) (T : Txt K mg C r) (c_met : CalX P w K mg base 6 "met" (sp_met C r)) : FnOk P w K mg base (L2.CX P w) 7 f fd ["self", "other"] (sp_Readerd_ord C r) := by
  refine fnX F sc_Readerd_ord (fun vs H Q E h => ?_) (fun cdv A outer s H vs Q E hr h => ?_)
  · obtain ⟨_, _, _, _, _, _, _, _, _, rfl, _⟩ := h
    rfl
  · obtain ⟨Z, p, q, al, rs, gd, bl, rs', gd', rfl, hp, hq, ha, hw, hw', k1, k2⟩ := h
    refine ⟨_, (pss_one (ps_ret (pe_cX c_met hr (by decide) (takes_of rfl rfl rfl rfl) rfl (pa_cons (pv 0) (pa_cons (pv 1) (pa_cons (pe_tup (pa_cons pe_int (pa_cons pe_int (pa_cons pe_int pa_nil)))) pa_nil)))))), ?_⟩
    walk_at "go"
    refine ⟨sz3, fun t ht => ?_⟩
    walk_at "go"
    have s1 : Same H (upd H t (.tup [.int 1, .int 2, .int 3])) := same_laid ht
    refine ⟨Z, p, q, t, al, rs, gd, bl, rs', gd', [1, 2, 3], rfl, hp.same s1, hq.same s1, upd_same, ha, hw, hw', fun e k hk => (k1 e k hk).wk s1, fun e d H' s' hd hx => k2 e d H' (s1.trans s') (same_free s1 hd) hx⟩
end
abbrev s_Readerd_subd : Stmt := inClass (top 34) 9
theorem sc_Readerd_subd : FnScope ["self", "other"] ["self", "other"] (fnScope s_Readerd_subd) := ⟨rfl, rfl, rfl, by decide +kernel, rfl, by decide +kernel, by decide +kernel⟩
abbrev sp_Readerd_subd (C : Addr) (r : Er) : Sp := sp_op C r [1]
section
variable {P : Program} {w : World} {K : PySem.W.Frag} {mg : Str → Option Value} {base : Heap} {C : Addr} {r : Er}
set_option maxHeartbeats 4000000 in
theorem ok_Readerd_subd {f : Addr} {fd : FuncData} (F : C8.Fun K "__sub__" "Reader.__sub__" s_Readerd_subd f fd) (T : Txt K mg C r) (c_met : CalX P w K mg base 6 "met" (sp_met C r)) : FnOk P w K mg base (L2.CX P w) 7 f fd ["self", "other"] (sp_Readerd_subd C r) := by
  refine fnX F sc_Readerd_subd (fun vs H Q E h => ?_) (fun cdv A outer s H vs Q E hr h => ?_)
  · obtain ⟨_, _, _, _, _, _, _, _, _, rfl, _⟩ := h
    rfl
  · obtain ⟨Z, p, q, al, rs, gd, bl, rs', gd', rfl, hp, hq, ha, hw, hw', k1, k2⟩ := h
    refine ⟨_, (pss_one (ps_ret (pe_cX c_met hr (by decide) (takes_of rfl rfl rfl rfl) rfl (pa_cons (pv 0) (pa_cons (pv 1) (pa_cons (pe_tup (pa_cons pe_int pa_nil)) pa_nil)))))), ?_⟩
    walk_at "go"
    refine ⟨sz1, fun t ht => ?_⟩
    walk_at "go"
    have s1 : Same H (upd H t (.tup [.int 1])) := same_laid ht
    refine ⟨Z, p, q, t, al, rs, gd, bl, rs', gd', [1], rfl, hp.same s1, hq.same s1, upd_same, ha, hw, hw', fun e k hk => (k1 e k hk).wk s1, fun e d H' s' hd hx => k2 e d H' (s1.trans s') (same_free s1 hd) hx⟩
end
abbrev s_Reader_bare : Stmt := inClass (top 34) 2
theorem sc_Reader_bare : FnScope ["alphabet", "letter"] ["alphabet"] (fnScope s_Reader_bare) := ⟨rfl, rfl, rfl, by decide +kernel, rfl, by decide +kernel, by decide +kernel⟩
def row0 (m : Nat) : Rws := [List.replicate m 0]
theorem row0_wf {al : List Nat} (ha : AlOk al) : WF al.length (row0 al.length) := .of (by show 0 < 1; decide) (by show 1 ≤ 60; decide) ha.le (fun r hr => by rw [List.mem_singleton.mp hr, List.length_replicate]) (fun r hr t ht => by
  rw [List.mem_singleton.mp hr] at ht
  rw [(List.mem_replicate.mp ht).2]
  show 0 < 1
  decide)
def sp_Reader_bare (C : Addr) : Sp := fun vs H Q _ => ∃ (al : List Nat), vs = [.str (SX.S al)] ∧ AlOk al ∧ ∀ p H', Same H H' → H p = none → Rd C (Old H) H' p al (row0 al.length) [] → Q (.ref p) H'
section
variable {P : Program} {w : World} {K : PySem.W.Frag} {mg : Str → Option Value} {base : Heap} {C : Addr} {r : Er}
set_option maxHeartbeats 4000000 in
theorem ok_Reader_bare {f : Addr} {fd : FuncData} (F : C8.Fun K "bare" "Reader.bare" s_Reader_bare f fd) (T : Txt K mg C r) (c_check_alphabet : Cal P w K mg base 2 "check_alphabet" sp_check_alphabet []) (m_Reader : Mak P w K mg base 3 "Reader" C (sp_Readerd_initd C) []) : FnOk P w K mg base C8.CX0 5 f fd ["alphabet"] (sp_Reader_bare C) := by
  refine fn0 F sc_Reader_bare (fun vs H Q E h => ?_) (fun cdv A outer s H vs Q E hr h => ?_)
  · obtain ⟨_, rfl, _⟩ := h
    rfl
  · obtain ⟨al, rfl, ha, k⟩ := h
    refine ⟨_, (pss_cons (ps_expr (pe_c c_check_alphabet hr (by decide) rfl (pa_cons (pv 0) pa_nil)))
        (pss_one (ps_ret (pe_mk m_Reader hr (by decide) rfl (pa_cons (pv 0) (pa_cons (pe_tup (pa_cons (pe_callTy (tupleK K rfl) (by rfl) T.b_tuple (by decide +kernel) (pa_cons (pe_lc (own := [("letter", 1)]) rfl sc_Reader_bare.nd (pi_str (pv 0)) (blkOk_by (by kernel_rfl)) (fun _ _ _ _ _ => (pg_name (i := 1) sc_Reader_bare.nd rfl (by first | exact Or.inl rfl | exact Or.inr rfl))) (fun _ _ _ _ _ => pts_nil) (fun _ _ _ _ _ => pe_int)) pa_nil)) pa_nil)) (pa_cons (pe_tup pa_nil) pa_nil))))))), ?_⟩
    walk_at "go"
    have h1 := ha.pos
    have h3 := ha.le
    have hl : (SX.S al).length = al.length := SX.S_len al
    have hcs : (SX.S al).cps.size = al.length := hl
    refine ⟨al, rfl, ha, fun H1 s1 => ?_⟩
    walk_at "go"
    intro D hD
    refine str_lc (fun i H' => i ≤ al.length ∧ H' = upd H1 D (.lst (List.replicate i (.int 0)))) ⟨Nat.zero_le _, rfl⟩ (fun i c H' hc z => ?_) (fun H' z => ?_)
    · obtain ⟨_, rfl⟩ := z
      have hi' : i < al.length := by
        have z : al.toArray[i]? = some c := hc
        rw [List.getElem?_toArray] at z
        exact (List.getElem?_eq_some_iff.mp z).1
      walk_at "go"
      exact ⟨_, upd_same, szlt (by rw [List.length_replicate]; omega), hi', upd_lst (rep_snoc i (V.int 0))⟩
    · obtain ⟨_, rfl⟩ := z
      rw [hcs]
      walk_at "go"
      refine i_tupleOfL upd_same (fun TT hTT => ?_)
      walk_at "go"
      refine ⟨sz1, fun M hM => ?_⟩
      walk_at "go"
      refine ⟨szl (by show 0 ≤ 16777216; decide), fun G hG => ?_⟩
      walk_at "go"
      intro x dx hx hdx hne
      have s2 : Same H1 (upd (upd H1 D (.lst (List.replicate al.length (.int 0)))) TT (.tup (List.replicate al.length (.int 0)))) := (same_laid hD).trans (same_laid hTT)
      have s3 := s2.trans (same_laid (o := .tup [.ref TT]) hM)
      have s4 := s3.trans (same_laid (o := .tup []) hG)
      have hT4 : (upd (upd (upd (upd H1 D (.lst (List.replicate al.length (.int 0)))) TT (.tup (List.replicate al.length (.int 0)))) M (.tup [.ref TT])) G (.tup [])) TT = some (.tup (List.replicate al.length (.int 0))) := by
        rw [upd_ne (ne_of_none (by rw [upd_ne (ne_of_none upd_same hM), upd_same]) hG), upd_ne (ne_of_none upd_same hM), upd_same]
      have hM4 : (upd (upd (upd (upd H1 D (.lst (List.replicate al.length (.int 0)))) TT (.tup (List.replicate al.length (.int 0)))) M (.tup [.ref TT])) G (.tup [])) M = some (.tup [.ref TT]) := by
        rw [upd_ne (ne_of_none upd_same hG), upd_same]
      have hG4 : (upd (upd (upd (upd H1 D (.lst (List.replicate al.length (.int 0)))) TT (.tup (List.replicate al.length (.int 0)))) M (.tup [.ref TT])) G (.tup [])) G = some (.tup []) := upd_same
      have hTT0 : H1 TT = none := same_free (same_laid hD) hTT
      have hM0 : H1 M = none := same_free s2 hM
      have hG0 : H1 G = none := same_free s3 hG
      generalize upd (upd (upd (upd H1 D (.lst (List.replicate al.length (.int 0)))) TT (.tup (List.replicate al.length (.int 0)))) M (.tup [.ref TT])) G (.tup []) = H4 at *
      have s5 : Same H4 (upd (upd H4 dx (.own x)) x (.ins C dx [])) := (same_laid hdx).trans (same_laid (by rw [upd_ne hne.symm]; exact hx))
      have s15 := s4.trans s5
      have s05 := s1.trans s15
      have e0 : (List.replicate al.length (V.int 0)) = (List.replicate al.length 0).map vn := by rw [List.map_replicate]; rfl
      refine ⟨Old H1, x, dx, al, M, row0 al.length, G, [], rfl, fun q hq => let ⟨u, hu⟩ := hq; ⟨u, s15 _ _ hu⟩, upd_same, ha, ⟨Old.none hM0, true, [TT], s5 _ _ hM4, .cons ⟨Old.none hTT0, true, by rw [s5 _ _ hT4, e0]; rfl⟩ .nil⟩, ⟨Old.none hG0, true, s5 _ _ hG4⟩, row0_wf ha, ⟨List.Pairwise.nil, fun z hz => by cases hz⟩, fun H' qm qg kk e1 e2 e3 => ⟨rfl, ?_⟩⟩
      have hx0 : H x = none := same_free (s1.trans s4) hx
      exact k x H' ((s1.trans s4).trans (made_same hx hdx kk)) hx0 ⟨Old.none hx0, dx, qm, qg, e1, e2.weak fun b hb => let ⟨u, hu⟩ := hb; ⟨u, s1 _ _ hu⟩, e3.weak fun b hb => let ⟨u, hu⟩ := hb; ⟨u, s1 _ _ hu⟩⟩
end
abbrev s_law_source : Stmt := top 54
theorem sc_law_source : FnScope ["script", "place", "cell", "seed", "one", "number"] ["script", "place"] (fnScope s_law_source) := ⟨rfl, rfl, rfl, by decide +kernel, rfl, by decide +kernel, by decide +kernel⟩
def sp_law_source (K : PySem.W.Frag) : Sp := fun vs H Q _ => ∃ (a : Addr) (ns : List Int) (k : Nat), vs = [.ref a, .int (k : Int)] ∧ SqL K H a (ns.map V.int) ∧ ns.length ≤ 63 ∧ k ≤ 2 ∧ (∀ n ∈ ns, n.natAbs < 2 ^ 1048576) ∧ ∀ p x y z H', Same H H' → H p = none → H' p = some (.lst [.int x, .int y, .int z]) → Q (.ref p) H'
section
variable {P : Program} {w : World} {K : PySem.W.Frag} {mg : Str → Option Value} {base : Heap} {C : Addr} {r : Er}
set_option maxHeartbeats 4000000 in
theorem ok_law_source {f : Addr} {fd : FuncData} (F : Def K mg "_law_source" s_law_source f fd) (T : Txt K mg C r) (b : Binds K fd ["script", "place"] []) : Cal P w K mg base 1 "_law_source" (sp_law_source K) [] := by
  refine cal0 F b .nil sc_law_source (fun vs H Q E h => ?_) (fun cdv A outer s H vs Q E hr h => ?_)
  · obtain ⟨_, _, _, rfl, _⟩ := h
    rfl
  · obtain ⟨a, ns, k, rfl, ha, hl, hk2, hb, kk⟩ := h
    refine ⟨_, (C8.pss_cut (ps_set (i := 2) sc_law_source.nd rfl (by first | exact Or.inl rfl | exact Or.inr rfl) (pe_ifExp (pt_cmpR op_lt (pv 1) (pe_callB (lenK K rfl) (by rfl) T.b_len (by decide +kernel) (pa_cons (pv 0) pa_nil)) (nomark _)) (pe_ix (ixK K rfl) (pv 0) (pv 1) (fun _ _ => rfl)) (pe_op op_add (pe_op op_mul pe_int (pv 1)) pe_int)))
        (pss_cons (ps_set (i := 3) sc_law_source.nd rfl (by first | exact Or.inl rfl | exact Or.inr rfl) (pe_op op_add (pe_op op_mul pe_int (pv 1)) pe_int))
        (pss_cons (ps_for PassesOwn.never rfl (seqK K rfl (pe_slice (slLK K rfl) (pv 0) po_none (po_some pe_int))) (pg_name (i := 4) sc_law_source.nd rfl (by first | exact Or.inl rfl | exact Or.inr rfl))
        (pss_one (ps_set (i := 3) sc_law_source.nd rfl (by first | exact Or.inl rfl | exact Or.inr rfl) (pe_op op_mod (pe_callTy int1 (by rfl) T.b_int (by decide +kernel) (pa_cons (pe_op op_add (pe_op op_mul (pv 3) pe_int) (pe_op op_mod (pe_callTy int1 (by rfl) T.b_int (by decide +kernel) (pa_cons (pv 4) pa_nil)) pe_int)) pa_nil)) pe_int))))
        (pss_cons (ps_set (i := 3) sc_law_source.nd rfl (by first | exact Or.inl rfl | exact Or.inr rfl) (pe_op op_mod (pe_callTy int1 (by rfl) T.b_int (by decide +kernel) (pa_cons (pe_op op_add (pe_op op_mul (pv 3) pe_int) (pe_op op_mod (pe_callTy int1 (by rfl) T.b_int (by decide +kernel) (pa_cons (pv 2) pa_nil)) pe_int)) pa_nil)) pe_int))
        (pss_cons (ps_set (i := 5) sc_law_source.nd rfl (by first | exact Or.inl rfl | exact Or.inr rfl) (pe_callB call_abs (by rfl) T.b_abs (by decide +kernel) (pa_cons (pv 2) pa_nil)))
        (pss_cons (ps_if (pt_cmpR op_lt (pv 5) (pe_op op_pow pe_int pe_int) (nomark _)) (pss_one (ps_ret (pe_lst (pa_cons pe_int (pa_cons (pv 3) (pa_cons pe_int pa_nil)))))) pss_nil)
        (pss_cons (ps_if (pt_cmpR op_gt (pe_op op_shr (pv 5) pe_int) pe_int (nomark _)) (pss_one (ps_set (i := 5) sc_law_source.nd rfl (by first | exact Or.inl rfl | exact Or.inr rfl) (pe_op op_sub (pv 5) (pe_op op_shlW (pe_op op_shr (pv 5) pe_int) pe_int)))) pss_nil)
        (pss_one (ps_ret (pe_lst (pa_cons (pv 5) (pa_cons (pv 3) (pa_cons pe_int pa_nil))))))))))))), ?_⟩
    walk_at "go"
    refine i_cut (fun σ H' => ∃ c : Int, c.natAbs < 2 ^ 1048576 ∧ H' = H ∧ σ = [some (.ref a), some (.int (k : Int)), some (.int c), none, none, none]) ?_ (fun σ H' hq => ?_)
    · walk_at "go"
      refine i_lenLs ha ?_
      walk_at "go"
      rw [List.length_map]
      refine iteD (fun h => ?_) (fun h => ?_)
      · walk_at "go"
        have hk : k < ns.length := by omega
        refine i_ixLs ha (v := .int ns[k]) (atI_nat (by rw [List.getElem?_map, List.getElem?_eq_getElem hk]; rfl)) ?_
        walk_at "go"
        exact ⟨_, hb _ (List.getElem_mem hk), rfl, rfl⟩
      · walk_at "go"
        refine ⟨_, ?_, rfl, rfl⟩
        refine Nat.lt_of_lt_of_le (m := 2 ^ 4) (by omega) (Nat.pow_le_pow_right (by decide) (by decide))
    · obtain ⟨c, hc, rfl, rfl⟩ := hq
      walk_at "go"
      refine ⟨a, _, rfl, ha, fun p hp => ?_⟩
      rw [cutV_to3, ← List.map_take]
      refine seq_for (t := false) upd_same (fun i σ H3 => ∃ x sd, σ = [some (.ref a), some (.int (k : Int)), some (.int c), some (.int sd), x, none] ∧ 0 ≤ sd ∧ sd < 2147483629 ∧ H3 = upd H' p (.lst ((ns.take 3).map V.int))) ⟨none, _, rfl, by omega, by omega, rfl⟩ (fun i σ H3 _ ⟨_, _, _, _, _, e⟩ => by rw [e]; exact upd_same) (fun i v σ H3 hv hq => ?_) (fun σ H3 hq => ?_)
      · obtain ⟨x, sd, rfl, g0, g1, rfl⟩ := hq
        obtain ⟨u, hu, rfl⟩ := at_map hv
        walk_at "go"
        exact ⟨_, _, rfl, Int.emod_nonneg _ (by omega), Int.emod_lt_of_pos _ (by omega), rfl⟩
      · obtain ⟨x, sd, rfl, g0, g1, rfl⟩ := hq
        walk_at "go"
        have hn0 : 0 ≤ (if c < 0 then -c else c) := by split <;> omega
        have hn1 : (if c < 0 then -c else c).natAbs < 2 ^ 1048576 := by
          split
          · rw [Int.natAbs_neg]; exact hc
          · exact hc
        generalize (if c < 0 then -c else c) = n at hn0 hn1
        have fin : ∀ (u v y : Int) (q : Addr), (upd H' p (.lst ((ns.take 3).map V.int))) q = none → Q (.ref q) (upd (upd H' p (.lst ((ns.take 3).map V.int))) q (.lst [.int u, .int v, .int y])) := fun u v y q hq =>
          kk q u v y _ ((same_laid hp).trans (same_laid hq)) (same_free (same_laid hp) hq) upd_same
        refine iteD (fun h => ?_) (fun h => ?_)
        · walk_at "go"
          exact ⟨sz3, fun q hq => fin _ _ _ q hq⟩
        · walk_at "go"
          refine iteD (fun h2 => ?_) (fun h2 => ?_)
          · walk_at "go"
            have hd : (n / 2 ^ (3000 : Int).toNat).natAbs < 2 ^ 1048576 := by
              refine Nat.lt_of_le_of_lt ?_ hn1
              have h1 : n / 2 ^ (3000 : Int).toNat ≤ n := Int.ediv_le_self _ hn0
              have h3 : 0 ≤ n / 2 ^ (3000 : Int).toNat := Int.ediv_nonneg hn0 (Int.pow_nonneg (by decide))
              generalize n / 2 ^ (3000 : Int).toNat = e at h1 h3
              omega
            have hbits := intBits_lt (by decide) hd
            refine i_rI ⟨by decide, by omega⟩ ?_
            walk_at "go"
            exact ⟨sz3, fun q hq => fin _ _ _ q hq⟩
          · walk_at "go"
            exact ⟨sz3, fun q hq => fin _ _ _ q hq⟩
end
abbrev s_law_alphabet : Stmt := top 56
theorem sc_law_alphabet : FnScope ["source", "menu"] ["source"] (fnScope s_law_alphabet) := ⟨rfl, rfl, rfl, by decide +kernel, rfl, by decide +kernel, by decide +kernel⟩
def alMenu : List (List Nat) := [[97, 98], [98, 100], [120, 121, 122], [97], [97, 98, 99], [99, 101], [113]]
def sp_law_alphabet : Sp := fun vs H Q _ => ∃ (S : AS) (a : Addr), vs = [.ref a] ∧ S a ∧ Srcs S H ∧ ∀ al H', al ∈ alMenu → AlOk al → Ev S H H' → Q (.str (SX.S al)) H'
section
variable {P : Program} {w : World} {K : PySem.W.Frag} {mg : Str → Option Value} {base : Heap} {C : Addr} {r : Er}
set_option maxHeartbeats 4000000 in
theorem ok_law_alphabet {f : Addr} {fd : FuncData} (F : Def K mg "_law_alphabet" s_law_alphabet f fd) (T : Txt K mg C r) (b : Binds K fd ["source"] []) (c_law_pick : Cal P w K mg base 1 "_law_pick" sp_law_pick []) : Cal P w K mg base 2 "_law_alphabet" (sp_law_alphabet) [] := by
  refine cal0 F b .nil sc_law_alphabet (fun vs H Q E h => ?_) (fun cdv A outer s H vs Q E hr h => ?_)
  · obtain ⟨_, _, rfl, _⟩ := h
    rfl
  · obtain ⟨S, a, rfl, ha, hS, k⟩ := h
    refine ⟨_, (pss_cons (ps_set (i := 1) sc_law_alphabet.nd rfl (by first | exact Or.inl rfl | exact Or.inr rfl) (pe_lst (pa_cons pe_str (pa_cons pe_str (pa_cons pe_str (pa_cons pe_str (pa_cons pe_str (pa_cons pe_str (pa_cons pe_str (pa_cons pe_str (pa_cons pe_str (pa_cons pe_str (pa_cons pe_str (pa_cons pe_str pa_nil))))))))))))))
        (pss_one (ps_ret (pe_ix (ixK K rfl) (pv 1) (pe_c c_law_pick hr (by decide) rfl (pa_cons (pv 0) (pa_cons (pe_callB (lenK K rfl) (by rfl) T.b_len (by decide +kernel) (pa_cons (pv 1) pa_nil)) pa_nil))) (fun _ _ => rfl))))), ?_⟩
    walk_at "go"
    refine ⟨szl (by show 12 ≤ 16777216; decide), fun p hp => ?_⟩
    walk_at "go"
    have e1 := Ev.laid (o := .lst [.str "ab", .str "ab", .str "ab", .str "ab", .str "bd", .str "ab", .str "xyz", .str "a", .str "abc", .str "ce", .str "ab", .str "q"]) hS hp
    refine ⟨S, a, _, rfl, ha, e1.src, by decide, by decide, fun d H' h0 h1 e2 => ?_⟩
    have hp2 := e2.at (fun z => hS.notin hp z) upd_same
    have key : ∀ (al : List Nat) (z : Str), al ∈ alMenu → SX.S al = z → AlOk al → atI ([.str "ab", .str "ab", .str "ab", .str "ab", .str "bd", .str "ab", .str "xyz", .str "a", .str "abc", .str "ce", .str "ab", .str "q"] : List V) d = some (.str z) → rIx K (.ref p) (.int d) H' Q := fun al z hm e ok h => by
      refine i_ixL hp2 h ?_
      rw [← e]
      exact k al H' hm ok (e1.trans e2)
    have ok1 : ∀ a, 97 ≤ a ∧ a ≤ 122 → AlOk [a] := fun a h => ⟨by show 1 ≤ 1; decide, by show 1 ≤ 3; decide, fun c hc => by rw [List.mem_singleton.mp hc]; exact h, by simp⟩
    have h1' : d < 12 := h1
    have hd : d = 0 ∨ d = 1 ∨ d = 2 ∨ d = 3 ∨ d = 4 ∨ d = 5 ∨ d = 6 ∨ d = 7 ∨ d = 8 ∨ d = 9 ∨ d = 10 ∨ d = 11 := by omega
    have kab : AlOk [97, 98] := ⟨by decide, by decide, by decide, by decide⟩
    have kbd : AlOk [98, 100] := ⟨by decide, by decide, by decide, by decide⟩
    have kxyz : AlOk [120, 121, 122] := ⟨by decide, by decide, by decide, by decide⟩
    have ka : AlOk [97] := ⟨by decide, by decide, by decide, by decide⟩
    have kabc : AlOk [97, 98, 99] := ⟨by decide, by decide, by decide, by decide⟩
    have kce : AlOk [99, 101] := ⟨by decide, by decide, by decide, by decide⟩
    have kq : AlOk [113] := ⟨by decide, by decide, by decide, by decide⟩
    rcases hd with rfl | rfl | rfl | rfl | rfl | rfl | rfl | rfl | rfl | rfl | rfl | rfl
    · exact key [97, 98] "ab" (by decide) rfl kab rfl
    · exact key [97, 98] "ab" (by decide) rfl kab rfl
    · exact key [97, 98] "ab" (by decide) rfl kab rfl
    · exact key [97, 98] "ab" (by decide) rfl kab rfl
    · exact key [98, 100] "bd" (by decide) rfl kbd rfl
    · exact key [97, 98] "ab" (by decide) rfl kab rfl
    · exact key [120, 121, 122] "xyz" (by decide) rfl kxyz rfl
    · exact key [97] "a" (by decide) rfl ka rfl
    · exact key [97, 98, 99] "abc" (by decide) rfl kabc rfl
    · exact key [99, 101] "ce" (by decide) rfl kce rfl
    · exact key [97, 98] "ab" (by decide) rfl kab rfl
    · exact key [113] "q" (by decide) rfl kq rfl
end
abbrev s_law_word : Stmt := top 58
theorem sc_law_word : FnScope ["source", "alphabet", "most", "size", "k"] ["source", "alphabet", "most"] (fnScope s_law_word) := ⟨rfl, rfl, rfl, by decide +kernel, rfl, by decide +kernel, by decide +kernel⟩
def sp_law_word : Sp := fun vs H Q _ => ∃ (S : AS) (a : Addr) (al : List Nat) (most : Nat), vs = [.ref a, .str (SX.S al), .int (most : Int)] ∧ S a ∧ Srcs S H ∧ AlOk al ∧ most ≤ 1000 ∧ ∀ z w H', z.length ≤ most → Word al w z → Ev S H H' → Q (.str (SX.S z)) H'
section
variable {P : Program} {w : World} {K : PySem.W.Frag} {mg : Str → Option Value} {base : Heap} {C : Addr} {r : Er}
set_option maxHeartbeats 4000000 in
theorem ok_law_word {f : Addr} {fd : FuncData} (F : Def K mg "_law_word" s_law_word f fd) (T : Txt K mg C r) (b : Binds K fd ["source", "alphabet", "most"] []) (c_law_pick : Cal P w K mg base 1 "_law_pick" sp_law_pick []) : Cal P w K mg base 2 "_law_word" (sp_law_word) [] := by
  refine cal0 F b .nil sc_law_word (fun vs H Q E h => ?_) (fun cdv A outer s H vs Q E hr h => ?_)
  · obtain ⟨_, _, _, _, rfl, _⟩ := h
    rfl
  · obtain ⟨S, a, al, most, rfl, ha, hS, hal, h0, k⟩ := h
    refine ⟨_, (pss_cons (ps_set (i := 3) sc_law_word.nd rfl (by first | exact Or.inl rfl | exact Or.inr rfl) (pe_c c_law_pick hr (by decide) rfl (pa_cons (pv 0) (pa_cons (pe_op op_add (pv 2) pe_int) pa_nil))))
        (pss_one (ps_ret (joinK K rfl pe_str (pe_lc (own := [("k", 4)]) rfl sc_law_word.nd (pi_range1 (by rfl) T.b_range (pa_cons (pv 3) pa_nil)) (blkOk_by (by kernel_rfl)) (fun _ _ _ _ _ => (pg_name (i := 4) sc_law_word.nd rfl (by first | exact Or.inl rfl | exact Or.inr rfl))) (fun _ _ _ _ _ => pts_nil) (fun _ _ _ _ _ => (pe_ix (ixK K rfl) (pv 1) (pe_c c_law_pick hr (by decide) rfl (pa_cons (pv 0) (pa_cons (pe_callB (lenK K rfl) (by rfl) T.b_len (by decide +kernel) (pa_cons (pv 1) pa_nil)) pa_nil))) (fun _ _ => rfl)))))))), ?_⟩
    walk_at "go"
    refine ⟨S, a, _, rfl, ha, hS, by omega, by omega, fun d H1 h1 h2 e1 => ?_⟩
    obtain ⟨d, rfl⟩ := Int.eq_ofNat_of_zero_le h1
    walk_at "go"
    have hpos := hal.pos
    have hle := hal.le
    have hl : (SX.S al).length = al.length := SX.S_len al
    refine ⟨by omega, by omega, fun D hD => ?_⟩
    rw [show (((d : Nat) : Int)).toNat = d from Int.toNat_natCast d]
    have hS1 := e1.src
    refine rng0_lc (fun i H' => Ev S H1 H' ∧ ∃ w : List Nat, w.length = i ∧ (∀ x ∈ w, x < al.length) ∧ H' D = some (.lst ((w.map fun x => al.getD x 0).map fun c => V.str ⟨#[c]⟩))) ⟨.laid hS1 hD, [], rfl, by simp, upd_same⟩ (fun i H' hi hq => ?_) (fun H' hq => ?_)
    · obtain ⟨e2, w, hw, hw2, hD2⟩ := hq
      walk_at "go"
      refine i_lenS (szl (by omega)) ?_
      walk_at "go"
      refine ⟨S, a, _, rfl, ha, e2.src, by omega, by omega, fun x H2 h3 h4 e3 => ?_⟩
      obtain ⟨x, rfl⟩ := Int.eq_ofNat_of_zero_le h3
      have hx : x < al.length := by omega
      have hc : al[x]? = some (al.getD x 0) := by
        rw [List.getD_eq_getElem?_getD, List.getElem?_eq_getElem hx]
        rfl
      refine i_ixS (szl (by omega)) (S_at hc) ?_
      refine ⟨_, e3.at (hS1.notin hD) hD2, szlt (by rw [List.length_map, List.length_map]; omega), Ev.put hS1 (e2.trans e3) hD, w ++ [x], by simp [hw], fun y hy => ?_, by rw [upd_same, List.map_append, List.map_append]; rfl⟩
      rcases List.mem_append.mp hy with hy | hy
      · exact hw2 y hy
      · rw [List.mem_singleton.mp hy]; exact hx
    · obtain ⟨e2, w, hw, hw2, hD2⟩ := hq
      walk_at "go"
      have hj := join_one (w.map fun x => al.getD x 0)
      refine ⟨"", D, (w.map fun x => al.getD x 0).map fun c => (⟨#[c]⟩ : Str), rfl, rfl, .inl (SqL.of (by rw [hD2, List.map_map, List.map_map, List.map_map]; rfl)), ?_, ?_⟩
      · rw [join_sum, List.length_map, List.length_map, show (("" : Str).length) = 0 from rfl]
        omega
      · rw [hj]
        exact k _ w H' (by rw [List.length_map]; omega) ⟨hw2, rfl⟩ (e1.trans e2)
end
abbrev s_law_reader : Stmt := top 59
theorem sc_law_reader : FnScope ["source", "many", "most", "size", "moves", "good", "p", "t"] ["source", "many", "most"] (fnScope s_law_reader) := ⟨rfl, rfl, rfl, by decide +kernel, rfl, by decide +kernel, by decide +kernel⟩
def sp_law_reader : Sp := fun vs H Q _ => ∃ (S : AS) (a : Addr) (m most : Nat), vs = [.ref a, .int (m : Int), .int (most : Int)] ∧ S a ∧ Srcs S H ∧ 0 < m ∧ m ≤ 3 ∧ 0 < most ∧ most ≤ 60 ∧ ∀ p rs gd H', Ev S H H' → Mach S H' p rs gd → WF m rs → GOK rs.length gd → rs.length ≤ most → Q (.ref p) H'
section
variable {P : Program} {w : World} {K : PySem.W.Frag} {mg : Str → Option Value} {base : Heap} {C : Addr} {r : Er}
set_option maxHeartbeats 4000000 in
theorem ok_law_reader {f : Addr} {fd : FuncData} (F : Def K mg "_law_reader" s_law_reader f fd) (T : Txt K mg C r) (b : Binds K fd ["source", "many", "most"] []) (c_law_pick : Cal P w K mg base 1 "_law_pick" sp_law_pick []) : Cal P w K mg base 2 "_law_reader" (sp_law_reader) [] := by
  refine cal0 F b .nil sc_law_reader (fun vs H Q E h => ?_) (fun cdv A outer s H vs Q E hr h => ?_)
  · obtain ⟨_, _, _, _, rfl, _⟩ := h
    rfl
  · obtain ⟨S, a, m, most, rfl, ha, hS, hm0, hm, h0, h1, k⟩ := h
    refine ⟨_, (pss_cons (ps_set (i := 3) sc_law_reader.nd rfl (by first | exact Or.inl rfl | exact Or.inr rfl) (pe_op op_add pe_int (pe_c c_law_pick hr (by decide) rfl (pa_cons (pv 0) (pa_cons (pv 2) pa_nil)))))
        (pss_cons (ps_setLc (i := 4) (own := [("p", 6)]) rfl sc_law_reader.nd rfl rfl (sw_true rfl rfl rfl (by decide +kernel)) (pi_range1 (by rfl) T.b_range (pa_cons (pv 3) pa_nil)) (blkOk_by (by kernel_rfl)) (fun _ _ _ _ _ => (pg_name (i := 6) sc_law_reader.nd rfl (by first | exact Or.inl rfl | exact Or.inr rfl))) (fun _ _ _ _ _ => pts_nil) (fun _ _ _ _ _ => (pe_lc (own := [("t", 7)]) rfl sc_law_reader.nd (pi_range1 (by rfl) T.b_range (pa_cons (pv 1) pa_nil)) (blkOk_by (by kernel_rfl)) (fun _ _ _ _ _ => (pg_name (i := 7) sc_law_reader.nd rfl (by first | exact Or.inl rfl | exact Or.inr rfl))) (fun _ _ _ _ _ => pts_nil) (fun _ _ _ _ _ => (pe_c c_law_pick hr (by decide) rfl (pa_cons (pv 0) (pa_cons (pv 3) pa_nil)))))))
        (pss_cons (ps_setLc (i := 5) (own := [("p", 6)]) rfl sc_law_reader.nd rfl rfl (sw_true rfl rfl rfl (by decide +kernel)) (pi_range1 (by rfl) T.b_range (pa_cons (pv 3) pa_nil)) (blkOk_by (by kernel_rfl)) (fun _ _ _ _ _ => (pg_name (i := 6) sc_law_reader.nd rfl (by first | exact Or.inl rfl | exact Or.inr rfl))) (fun _ _ _ _ _ => (pts_one (pt_cmpR op_eq (pe_c c_law_pick hr (by decide) rfl (pa_cons (pv 0) (pa_cons pe_int pa_nil))) pe_int (nomark _)))) (fun _ _ _ _ _ => (pv 6)))
        (pss_cons (ps_if (PW.pt (pw_and (pt_cmpR op_eq (pe_callB (lenK K rfl) (by rfl) T.b_len (by decide +kernel) (pa_cons (pv 5) pa_nil)) pe_int (nomark _)) (pw_and1 (pt_cmpR op_gt (pe_c c_law_pick hr (by decide) rfl (pa_cons (pv 0) (pa_cons pe_int pa_nil))) pe_int (nomark _))))) (pss_one (ps_set (i := 5) sc_law_reader.nd rfl (by first | exact Or.inl rfl | exact Or.inr rfl) (pe_lst (pa_cons (pe_c c_law_pick hr (by decide) rfl (pa_cons (pv 0) (pa_cons (pv 3) pa_nil))) pa_nil)))) pss_nil)
        (pss_one (ps_ret (pe_tup (pa_cons (pv 4) (pa_cons (pv 5) pa_nil))))))))), ?_⟩
    walk_at "go"
    refine ⟨S, a, _, rfl, ha, hS, by omega, by omega, fun d H1 g0 g1 e1 => ?_⟩
    obtain ⟨d, rfl⟩ := Int.eq_ofNat_of_zero_le g0
    have hS1 := e1.src
    walk_at "go"
    refine ⟨by omega, by omega, fun D hD => ?_⟩
    rw [show (1 + ((d : Nat) : Int)).toNat = d + 1 by omega]
    generalize hsz : d + 1 = size
    have hsz1 : (1 + (d : Int)) = (size : Int) := by omega
    have hsz2 : size ≤ most := by omega
    have hsz3 : 0 < size := by omega
    rw [hsz1]
    refine rng0_lc (fun i H' => Ev S H1 H' ∧ ∃ bs rws, H' D = some (.lst (bs.map V.ref)) ∧ Paired (fun a r => Ints (fun b => S b ∨ b = D) H' a r) bs rws ∧ rws.length = i ∧ ∀ r ∈ rws, r.length = m ∧ ∀ t ∈ r, t < size) ⟨.laid hS1 hD, [], [], upd_same, .nil, rfl, by simp⟩ (fun i H' hi hq => ?_) (fun H' hq => ?_)
    · obtain ⟨e2, bs, rws, hD2, hbs, hlen, hrw⟩ := hq
      have hS2 := e2.src
      walk_at "go"
      refine ⟨by omega, by omega, fun E hE => ?_⟩
      rw [show ((m : Nat) : Int).toNat = m from Int.toNat_natCast m]
      refine rng0_lc (fun q H3 => Ev S H' H3 ∧ ∃ ns : List Nat, ns.length = q ∧ (∀ t ∈ ns, t < size) ∧ H3 E = some (.lst (ns.map vn))) ⟨.laid hS2 hE, [], rfl, by simp, upd_same⟩ (fun q H3 hq3 hq => ?_) (fun H3 hq => ?_)
      · obtain ⟨e3, ns, hns, hns2, hE3⟩ := hq
        walk_at "go"
        refine ⟨S, a, _, rfl, ha, e3.src, by omega, by omega, fun x H4 g2 g3 e4 => ?_⟩
        obtain ⟨x, rfl⟩ := Int.eq_ofNat_of_zero_le g2
        refine ⟨_, e4.at (hS2.notin hE) hE3, szlt (by rw [List.length_map]; omega), Ev.put hS2 (e3.trans e4) hE, ns ++ [x], by simp [hns], fun y hy => ?_, by rw [upd_same, List.map_append]; rfl⟩
        rcases List.mem_append.mp hy with hy | hy
        · exact hns2 y hy
        · rw [List.mem_singleton.mp hy]; omega
      · obtain ⟨e3, ns, hns, hns2, hE3⟩ := hq
        have hED : E ≠ D := fun z => by rw [z, hD2] at hE; cases hE
        have hD3 := e3.at (hS1.notin hD) hD2
        refine ⟨_, hD3, szlt (by rw [List.length_map, hbs.length]; omega), Ev.put hS1 (e2.trans e3) hD, bs ++ [E], rws ++ [ns], by rw [upd_same, List.map_append]; rfl, ?_, by simp [hlen], fun r hr => ?_⟩
        · have kk : Kp (fun b => S b ∨ b = D) H' (upd H3 D (.lst (bs.map V.ref ++ [V.ref E]))) := fun b u n z => by
            rw [upd_ne (fun y => n (.inr y))]
            exact e3.kp b u (fun y => n (.inl y)) z
          exact U.Paired.snoc (Paired.mapP hbs fun b r z => z.kp kk fun _ z => z) ⟨fun z => z.elim (hS2.notin hE) hED, false, by rw [upd_ne hED]; exact hE3⟩
        · rcases List.mem_append.mp hr with hr | hr
          · exact hrw r hr
          · rw [List.mem_singleton.mp hr]; exact ⟨hns, hns2⟩
    · obtain ⟨e2, bs, rws, hD2, hbs, hlen, hrw⟩ := hq
      walk_at "go"
      refine ⟨by omega, by omega, fun G hG => ?_⟩
      rw [Int.toNat_natCast]
      have hS2 := e2.src
      have hrows : Rows S H' D rws := ⟨hS1.notin hD, false, bs, hD2, Paired.mapP hbs fun b r z => z.weak fun _ y => .inl y⟩
      have hwf : WF m rws := .of (by omega) (by omega) hm (fun r hr => (hrw r hr).1) (fun r hr t ht => by rw [hlen]; exact (hrw r hr).2 t ht)
      refine rng0_lc (fun i H3 => Ev S H' H3 ∧ ∃ gd : List Nat, H3 G = some (.lst (gd.map vn)) ∧ gd.Pairwise (· < ·) ∧ (∀ x ∈ gd, x < i) ∧ gd.length ≤ i) ⟨.laid hS2 hG, [], upd_same, .nil, by simp, Nat.le_refl _⟩ (fun i H3 hi hq => ?_) (fun H3 hq => ?_)
      · obtain ⟨e3, gd, hG3, hp, hlt, hgl⟩ := hq
        walk_at "go"
        refine ⟨S, a, _, rfl, ha, e3.src, by omega, by omega, fun x H4 g2 g3 e4 => ?_⟩
        walk_at "go"
        have hG4 := e4.at (hS2.notin hG) hG3
        refine iteD (fun hx => ?_) (fun hx => ?_)
        · walk_at "go"
          refine ⟨_, hG4, szlt (by rw [List.length_map]; omega), Ev.put hS2 (e3.trans e4) hG, gd ++ [i], by rw [upd_same, List.map_append]; rfl, ?_, fun y hy => ?_, by simp; omega⟩
          · rw [List.pairwise_append]
            exact ⟨hp, by simp, fun y hy z hz => by rw [List.mem_singleton.mp hz]; exact hlt y hy⟩
          · rcases List.mem_append.mp hy with hy | hy
            · exact Nat.lt_succ_of_lt (hlt y hy)
            · rw [List.mem_singleton.mp hy]; omega
        · exact ⟨e3.trans e4, gd, hG4, hp, fun y hy => Nat.lt_succ_of_lt (hlt y hy), by omega⟩
      · obtain ⟨e3, gd, hG3, hp, hlt, hgl⟩ := hq
        have fin : ∀ (Gq : Addr) (gd' : List Nat) (H5 : Hp), Ev S H' H5 → ¬ S Gq → H5 Gq = some (.lst (gd'.map vn)) → GOK size gd' → ∀ q, H5 q = none → Q (.ref q) (upd H5 q (.tup [.ref D, .ref Gq])) := fun Gq gd' H5 e5 nS hGq ok q hq => by
          have e6 : Ev S H5 (upd H5 q (.tup [.ref D, .ref Gq])) := .laid e5.src hq
          exact k q rws gd' _ (((e1.trans e2).trans e5).trans e6) ⟨e5.src.notin hq, D, Gq, upd_same, (hrows.ev e5).ev e6, nS, false, e6.at nS hGq⟩ hwf (by rw [hlen]; exact ok) (by omega)
        walk_at "go"
        have gok1 : GOK size gd := ⟨hp, hlt⟩
        refine iteD (fun hx => ?_) (fun hx => ?_)
        · walk_at "go"
          refine ⟨S, a, _, rfl, ha, e3.src, by omega, by omega, fun x H4 g2 g3 e4 => ?_⟩
          walk_at "go"
          refine iteD (fun hx => ?_) (fun hx => ?_)
          · walk_at "go"
            refine ⟨S, a, _, rfl, ha, e4.src, by omega, by omega, fun y H5 g4 g5 e5 => ?_⟩
            obtain ⟨y, rfl⟩ := Int.eq_ofNat_of_zero_le g4
            walk_at "go"
            refine ⟨sz1, fun G2 hG2 => ?_⟩
            walk_at "go"
            refine ⟨sz2, fun q hq => ?_⟩
            have e6 : Ev S H5 (upd H5 G2 (.lst [.int (y : Int)])) := .laid e5.src hG2
            exact fin G2 [y] _ (((e3.trans e4).trans e5).trans e6) (e5.src.notin hG2) upd_same ⟨by simp, fun z hz => by rw [List.mem_singleton.mp hz]; omega⟩ q hq
          · walk_at "go"
            exact ⟨sz2, fun q hq => fin G gd _ (e3.trans e4) (hS2.notin hG) (e4.at (hS2.notin hG) hG3) gok1 q hq⟩
        · walk_at "go"
          exact ⟨sz2, fun q hq => fin G gd _ e3 (hS2.notin hG) hG3 gok1 q hq⟩
end
abbrev s_law_room : Stmt := top 60
theorem sc_law_room : FnScope ["alphabet", "moves", "text", "room", "letter"] ["alphabet", "moves", "text"] (fnScope s_law_room) := ⟨rfl, rfl, rfl, by decide +kernel, rfl, by decide +kernel, by decide +kernel⟩
def sp_law_room : Sp := fun vs H Q _ => ∃ (Z : AS) (al : List Nat) (p : Addr) (rs : Rws) (w z : List Nat), vs = [.str (SX.S al), .ref p, .str (SX.S z)] ∧ Rows Z H p rs ∧ AlOk al ∧ WF al.length rs ∧ Word al w z ∧ Q (vn (run rs 0 w)) H
section
variable {P : Program} {w : World} {K : PySem.W.Frag} {mg : Str → Option Value} {base : Heap} {C : Addr} {r : Er}
set_option maxHeartbeats 4000000 in
theorem ok_law_room {f : Addr} {fd : FuncData} (F : Def K mg "_law_room" s_law_room f fd) (T : Txt K mg C r) (b : Binds K fd ["alphabet", "moves", "text"] []) : Cal P w K mg base 1 "_law_room" (sp_law_room) [] := by
  refine cal0 F b .nil sc_law_room (fun vs H Q E h => ?_) (fun cdv A outer s H vs Q E hr h => ?_)
  · obtain ⟨_, _, _, _, _, _, rfl, _⟩ := h
    rfl
  · obtain ⟨Z, al, p, rs, w, z, rfl, hp, ha, hw, hz, k⟩ := h
    refine ⟨_, (pss_cons (ps_set (i := 3) sc_law_room.nd rfl (by first | exact Or.inl rfl | exact Or.inr rfl) pe_int)
        (pss_cons (ps_for PassesOwn.never rfl (pi_str (pv 2)) (pg_name (i := 4) sc_law_room.nd rfl (by first | exact Or.inl rfl | exact Or.inr rfl))
        (pss_one (ps_set (i := 3) sc_law_room.nd rfl (by first | exact Or.inl rfl | exact Or.inr rfl) (pe_ix (ixK K rfl) (pe_ix (ixK K rfl) (pv 1) (pv 3) (fun _ _ => rfl)) (sidxK K rfl (pv 0) (pa_cons (pv 4) pa_nil)) (fun _ _ => rfl)))))
        (pss_one (ps_ret (pv 3))))), ?_⟩
    walk_at "go"
    have hlw := hz.len
    refine str_for (fun i σ H' => ∃ x, i ≤ w.length ∧ H' = H ∧ σ = [some (.str (SX.S al)), some (.ref p), some (.str (SX.S z)), some (vn (run rs 0 (w.take i))), x]) ⟨none, Nat.zero_le _, rfl, rfl⟩ (fun i c σ H' hc hq => ?_) (fun σ H' hq => ?_)
    · obtain ⟨x, hi, rfl, rfl⟩ := hq
      have hc' : z[i]? = some c := by simpa [SX.S] using hc
      obtain ⟨a, ha1, ha2, ha3⟩ := hz.at hc'
      have hi' := (List.getElem?_eq_some_iff.mp ha1).1
      have hlt : run rs 0 (w.take i) < rs.length := hw.run_lt hw.pos fun b hb => hz.1 b (List.mem_of_mem_take hb)
      obtain ⟨t, vs, b, hv1, hv2, hv3, hb1, tb, hb2⟩ := hp.at hlt
      walk_at "go"
      refine i_ixQ hv1 hv3 ?_
      walk_at "go"
      refine i_sidx ha.nd ha3 ?_
      walk_at "go"
      refine i_ixQ hb2 (vn_at (hw.stp_at hlt ha2)) ?_
      walk_at "go"
      exact ⟨some (.str ⟨#[c]⟩), hi', rfl, by rw [take_at ha1, run_snoc]; rfl⟩
    · obtain ⟨x, hi, rfl, rfl⟩ := hq
      walk_at "go"
      have e : (w.take (SX.S z).cps.size) = w := by
        rw [show (SX.S z).cps.size = w.length from (SX.S_len z).trans hlw, List.take_length]
      rw [e]
      exact k
end
abbrev s_law_within : Stmt := top 61
theorem sc_law_within : FnScope ["alphabet", "told", "text"] ["alphabet", "told", "text"] (fnScope s_law_within) := ⟨rfl, rfl, rfl, by decide +kernel, rfl, by decide +kernel, by decide +kernel⟩
def sp_law_within : Sp := fun vs H Q _ => ∃ (Z : AS) (al : List Nat) (p : Addr) (rs : Rws) (gd w z : List Nat), vs = [.str (SX.S al), .ref p, .str (SX.S z)] ∧ Mach Z H p rs gd ∧ AlOk al ∧ WF al.length rs ∧ Word al w z ∧ Q (.bl (decide (run rs 0 w ∈ gd))) H
section
variable {P : Program} {w : World} {K : PySem.W.Frag} {mg : Str → Option Value} {base : Heap} {C : Addr} {r : Er}
set_option maxHeartbeats 4000000 in
theorem ok_law_within {f : Addr} {fd : FuncData} (F : Def K mg "_law_within" s_law_within f fd) (T : Txt K mg C r) (b : Binds K fd ["alphabet", "told", "text"] []) (c_law_room : Cal P w K mg base 1 "_law_room" sp_law_room []) : Cal P w K mg base 2 "_law_within" (sp_law_within) [] := by
  refine cal0 F b .nil sc_law_within (fun vs H Q E h => ?_) (fun cdv A outer s H vs Q E hr h => ?_)
  · obtain ⟨_, _, _, _, _, _, _, rfl, _⟩ := h
    rfl
  · obtain ⟨Z, al, p, rs, gd, w, z, rfl, hp, ha, hw, hz, k⟩ := h
    refine ⟨_, (pss_one (ps_ret (pe_cmpR (inK K rfl) (pe_c c_law_room hr (by decide) rfl (pa_cons (pv 0) (pa_cons (pe_ix (ixK K rfl) (pv 1) pe_int (fun _ _ => rfl)) (pa_cons (pv 2) pa_nil)))) (pe_ix (ixK K rfl) (pv 1) pe_int (fun _ _ => rfl)) rfl))), ?_⟩
    walk_at "go"
    obtain ⟨hpZ, pm, pg, hp1, hp2, hp3, tg, hp4⟩ := hp
    refine i_ixT hp1 (i := 0) (v := .ref pm) rfl ?_
    walk_at "go"
    refine ⟨Z, al, pm, rs, w, z, rfl, hp2, ha, hw, hz, ?_⟩
    walk_at "go"
    exact i_inI hp4 k
end
abbrev s_law_is_number : Stmt := top 64
theorem sc_law_is_number : FnScope ["thing", "low", "high"] ["thing", "low", "high"] (fnScope s_law_is_number) := ⟨rfl, rfl, rfl, by decide +kernel, rfl, by decide +kernel, by decide +kernel⟩
def sp_law_is_number : Sp := fun vs H Q _ => ∃ (i lo hi : Int), vs = [.int i, .int lo, .int hi] ∧ lo ≤ i ∧ i ≤ hi ∧ Q (.bl true) H
section
variable {P : Program} {w : World} {K : PySem.W.Frag} {mg : Str → Option Value} {base : Heap} {C : Addr} {r : Er}
set_option maxHeartbeats 4000000 in
theorem ok_law_is_number {f : Addr} {fd : FuncData} (F : Def K mg "_law_is_number" s_law_is_number f fd) (T : Txt K mg C r) (b : Binds K fd ["thing", "low", "high"] []) : Cal P w K mg base 1 "_law_is_number" (sp_law_is_number) [] := by
  refine cal0 F b .nil sc_law_is_number (fun vs H Q E h => ?_) (fun cdv A outer s H vs Q E hr h => ?_)
  · obtain ⟨_, _, _, rfl, _⟩ := h
    rfl
  · obtain ⟨i, lo, hi, rfl, h1, h2, k⟩ := h
    refine ⟨_, (pss_one (ps_ret (pe_and (pe_callB (isiK K rfl) (by rfl) T.b_isinstance (by decide +kernel) (pa_cons (pv 0) (pa_cons (pe_bltn (v := .ty "int") (u := .type "int") (by rfl) T.b_int (by decide +kernel) rfl) pa_nil))) (pe_and (pe_not (pe_callB (isiK K rfl) (by rfl) T.b_isinstance (by decide +kernel) (pa_cons (pv 0) (pa_cons (pe_bltn (v := .ty "bool") (u := .type "bool") (by rfl) T.b_bool (by decide +kernel) rfl) pa_nil)))) (pe_one (pe_chain op_le op_le (pv 1) (pv 0) (pv 2))))))), ?_⟩
    walk_at "go"
    refine i_isi (.base (.int i)) (r := true) (by decide +kernel) ?_
    walk_at "go"
    refine i_isi (.base (.int i)) (r := false) (by decide +kernel) ?_
    walk_at "go"
    refine ite_dt h1 ?_
    walk_at "go"
    rw [decide_eq_true h2]
    exact k
end
abbrev s_law_is_reader : Stmt := top 63
theorem sc_law_is_reader : FnScope ["reader", "alphabet", "size", "row", "room", "k"] ["reader", "alphabet"] (fnScope s_law_is_reader) := ⟨rfl, rfl, rfl, by decide +kernel, rfl, by decide +kernel, by decide +kernel⟩
def sp_law_is_reader (C : Addr) : Sp := fun vs H Q _ => ∃ (Z : AS) (p : Addr) (al : List Nat) (rs : Rws) (gd : List Nat), vs = [.ref p, .str (SX.S al)] ∧ Rd C Z H p al rs gd ∧ AlOk al ∧ WF al.length rs ∧ GOK rs.length gd ∧ ∀ H', Same H H' → Q (.bl true) H'
section
variable {P : Program} {w : World} {K : PySem.W.Frag} {mg : Str → Option Value} {base : Heap} {C : Addr} {r : Er}
set_option maxHeartbeats 4000000 in
theorem ok_law_is_reader {f : Addr} {fd : FuncData} (F : Def K mg "_law_is_reader" s_law_is_reader f fd) (T : Txt K mg C r) (b : Binds K fd ["reader", "alphabet"] []) (c_law_is_number : Cal P w K mg base 1 "_law_is_number" sp_law_is_number []) : Cal P w K mg base 2 "_law_is_reader" (sp_law_is_reader C) [] := by
  refine cal0 F b .nil sc_law_is_reader (fun vs H Q E h => ?_) (fun cdv A outer s H vs Q E hr h => ?_)
  · obtain ⟨_, _, _, _, _, rfl, _⟩ := h
    rfl
  · obtain ⟨Z, p, al, rs, gd, rfl, hp, ha, hw, hg, k⟩ := h
    refine ⟨_, (pss_cons (ps_if (PW.pt (pw_or (pt_not (pt_val (pe_callB (call_isC T.ins) (by rfl) T.b_isinstance (by decide +kernel) (pa_cons (pv 0) (pa_cons (pe_gc (v := .ref C) rfl ⟨_, T.mg_Reader, rfl⟩) pa_nil))))) (pw_or (pt_cmpR op_ne (fldK K rfl (pv 0) rfl) (pv 1) (nomark _)) (pw_or1 (pt_not (pt_val (pe_callB (isiK K rfl) (by rfl) T.b_isinstance (by decide +kernel) (pa_cons (fldK K rfl (pv 0) rfl) (pa_cons (pe_bltn (v := .ty "tuple") (u := .type "tuple") (by rfl) T.b_tuple (by decide +kernel) rfl) pa_nil))))))))) (pss_one (ps_ret pe_bl)) pss_nil)
        (pss_cons (ps_set (i := 2) sc_law_is_reader.nd rfl (by first | exact Or.inl rfl | exact Or.inr rfl) (pe_callB (lenK K rfl) (by rfl) T.b_len (by decide +kernel) (pa_cons (fldK K rfl (pv 0) rfl) pa_nil)))
        (pss_cons (ps_if (PW.pt (pw_or (pt_cmpR op_eq (pv 2) pe_int (nomark _)) (pw_or1 (pt_not (pt_val (pe_callB (isiK K rfl) (by rfl) T.b_isinstance (by decide +kernel) (pa_cons (fldK K rfl (pv 0) rfl) (pa_cons (pe_bltn (v := .ty "tuple") (u := .type "tuple") (by rfl) T.b_tuple (by decide +kernel) rfl) pa_nil)))))))) (pss_one (ps_ret pe_bl)) pss_nil)
        (pss_cons (ps_for PassesOwn.never rfl (seqK K rfl (fldK K rfl (pv 0) rfl)) (pg_name (i := 3) sc_law_is_reader.nd rfl (by first | exact Or.inl rfl | exact Or.inr rfl))
        (pss_cons (ps_if (PW.pt (pw_or (pt_not (pt_val (pe_callB (isiK K rfl) (by rfl) T.b_isinstance (by decide +kernel) (pa_cons (pv 3) (pa_cons (pe_bltn (v := .ty "tuple") (u := .type "tuple") (by rfl) T.b_tuple (by decide +kernel) rfl) pa_nil))))) (pw_or1 (pt_cmpR op_ne (pe_callB (lenK K rfl) (by rfl) T.b_len (by decide +kernel) (pa_cons (pv 3) pa_nil)) (pe_callB (lenK K rfl) (by rfl) T.b_len (by decide +kernel) (pa_cons (pv 1) pa_nil)) (nomark _))))) (pss_one (ps_ret pe_bl)) pss_nil)
        (pss_one (ps_if (pt_not (pt_val (pe_callB (allK K rfl rfl) (by rfl) T.b_all (by decide +kernel) (pa_cons (pe_lc (own := [("room", 4)]) rfl sc_law_is_reader.nd (seqK K rfl (pv 3)) (blkOk_by (by kernel_rfl)) (fun _ _ _ _ _ => (pg_name (i := 4) sc_law_is_reader.nd rfl (by first | exact Or.inl rfl | exact Or.inr rfl))) (fun _ _ _ _ _ => pts_nil) (fun _ _ _ _ _ => (pe_c c_law_is_number hr (by decide) rfl (pa_cons (pv 4) (pa_cons pe_int (pa_cons (pe_op op_sub (pv 2) pe_int) pa_nil)))))) pa_nil)))) (pss_one (ps_ret pe_bl)) pss_nil))))
        (pss_cons (ps_if (pt_not (pt_val (pe_callB (allK K rfl rfl) (by rfl) T.b_all (by decide +kernel) (pa_cons (pe_lc (own := [("room", 4)]) rfl sc_law_is_reader.nd (seqK K rfl (fldK K rfl (pv 0) rfl)) (blkOk_by (by kernel_rfl)) (fun _ _ _ _ _ => (pg_name (i := 4) sc_law_is_reader.nd rfl (by first | exact Or.inl rfl | exact Or.inr rfl))) (fun _ _ _ _ _ => pts_nil) (fun _ _ _ _ _ => (pe_c c_law_is_number hr (by decide) rfl (pa_cons (pv 4) (pa_cons pe_int (pa_cons (pe_op op_sub (pv 2) pe_int) pa_nil)))))) pa_nil)))) (pss_one (ps_ret pe_bl)) pss_nil)
        (pss_one (ps_ret (pe_callB (allK K rfl rfl) (by rfl) T.b_all (by decide +kernel) (pa_cons (pe_lc (own := [("k", 5)]) rfl sc_law_is_reader.nd (pi_range1 (by rfl) T.b_range (pa_cons (pe_op op_sub (pe_callB (lenK K rfl) (by rfl) T.b_len (by decide +kernel) (pa_cons (fldK K rfl (pv 0) rfl) pa_nil)) pe_int) pa_nil)) (blkOk_by (by kernel_rfl)) (fun _ _ _ _ _ => (pg_name (i := 5) sc_law_is_reader.nd rfl (by first | exact Or.inl rfl | exact Or.inr rfl))) (fun _ _ _ _ _ => pts_nil) (fun _ _ _ _ _ => (pe_cmpR op_lt (pe_ix (ixK K rfl) (fldK K rfl (pv 0) rfl) (pv 5) (fun _ _ => rfl)) (pe_ix (ixK K rfl) (fldK K rfl (pv 0) rfl) (pe_op op_add (pv 5) pe_int) (fun _ _ => rfl)) (nomark _)))) pa_nil))))))))), ?_⟩
    walk_at "go"
    obtain ⟨hpZ, dx, pm, pg, hp1, hp2, hp3⟩ := hp
    obtain ⟨_, as, hp4, hp5⟩ := id hp2
    have hlen : (as.map V.ref).length = rs.length := by rw [List.length_map, hp5.length]
    have hle := hw.le
    have hpos := hw.pos
    have ha3 := ha.le
    have hl : (SX.S al).length = al.length := SX.S_len al
    refine ⟨p, dx, _, rfl, hp1, ?_⟩
    walk_at "go"
    refine i_fldR hp1 T.cl T.nA (flds_al al pm pg) ?_
    walk_at "go"
    refine ite_ndf rfl ?_
    walk_at "go"
    refine i_fldR hp1 T.cl T.nM (flds_mo al pm pg) ?_
    walk_at "go"
    refine i_isi (a := "tuple") (r := true) (.base (.tup hp4)) (by decide +kernel) ?_
    walk_at "go"
    refine i_fldR hp1 T.cl T.nM (flds_mo al pm pg) ?_
    walk_at "go"
    rw [hlen]
    refine ite_df (by omega) ?_
    walk_at "go"
    refine i_fldR hp1 T.cl T.nG (flds_go al pm pg) ?_
    walk_at "go"
    refine i_isi (a := "tuple") (r := true) (.base (.tup hp3.2)) (by decide +kernel) ?_
    walk_at "go"
    refine i_fldR hp1 T.cl T.nM (flds_mo al pm pg) ?_
    refine seq_for (t := true) hp4 (fun i σ H' => ∃ x4 : Option V, σ = [some (.ref p), some (.str (SX.S al)), some (vn rs.length), x4, none, none] ∧ Same H H') ⟨none, rfl, Same.refl H⟩ (fun i σ H' _ ⟨_, _, e⟩ => e _ _ hp4) (fun i v σ H' hv hq => ?_) (fun σ H' hq => ?_)
    · obtain ⟨x4, rfl, s1⟩ := hq
      obtain ⟨a, hva, rfl⟩ := at_map hv
      obtain ⟨rw', hrw, hia⟩ := Paired.at0 hp5 hva
      have hmem : rw' ∈ rs := List.mem_of_getElem? hrw
      have ha1 := s1 _ _ hia.2
      have hwid := hw.wid _ hmem
      walk_at "go"
      refine i_isi (a := "tuple") (r := true) (.base (.tup ha1)) (by decide +kernel) ?_
      walk_at "go"
      refine i_lenS (szl (by omega)) ?_
      walk_at "go"
      rw [List.length_map]
      refine ite_ndf (by omega) ?_
      walk_at "go"
      refine seq_lc (t := true) ha1 (fun D hD => ⟨fun j H3 => j ≤ rw'.length ∧ H3 = upd H' D (.lst (List.replicate j (.bl true))), ⟨Nat.zero_le _, rfl⟩, fun j H3 _ ⟨_, e⟩ => by rw [e, upd_ne (ne_of_none ha1 hD)]; exact ha1, fun j v H3 hvj hp3 => ?_, fun H3 hp3 => ?_⟩)
      · obtain ⟨_, rfl⟩ := hp3
        obtain ⟨u, hu, rfl⟩ := at_map hvj
        have hlt : u < rs.length := hw.lt _ hmem u (List.mem_of_getElem? hu)
        have hj : j < rw'.length := (List.getElem?_eq_some_iff.mp hu).1
        walk_at "go"
        exact ⟨u, 0, _, rfl, by omega, by omega, _, upd_same, szlt (by rw [List.length_replicate]; omega), hj, upd_lst (rep_snoc j (V.bl true))⟩
      · obtain ⟨_, rfl⟩ := hp3
        walk_at "go"
        refine i_all (bs := List.replicate _ true) (by rw [upd_same, map_rep]) (all_rep _) ?_
        walk_at "go"
        exact ⟨_, rfl, s1.trans (same_laid hD)⟩
    · obtain ⟨x4, rfl, s1⟩ := hq
      have hg1 := s1 _ _ hp3.2
      walk_at "go"
      refine i_fldR (s1 _ _ hp1) T.cl T.nG (flds_go al pm pg) ?_
      refine seq_lc (t := true) hg1 (fun D hD => ⟨fun j H3 => j ≤ gd.length ∧ H3 = upd H' D (.lst (List.replicate j (.bl true))), ⟨Nat.zero_le _, rfl⟩, fun j H3 _ ⟨_, e⟩ => by rw [e, upd_ne (ne_of_none hg1 hD)]; exact hg1, fun j v H3 hvj hp3 => ?_, fun H3 hp3 => ?_⟩)
      · obtain ⟨_, rfl⟩ := hp3
        obtain ⟨u, hu, rfl⟩ := at_map hvj
        have hlt : u < rs.length := hg.lt u (List.mem_of_getElem? hu)
        have hj : j < gd.length := (List.getElem?_eq_some_iff.mp hu).1
        have hgl : gd.length ≤ rs.length := nodup_le (hg.inc.imp fun z => Nat.ne_of_lt z) hg.lt
        walk_at "go"
        exact ⟨u, 0, _, rfl, by omega, by omega, _, upd_same, szlt (by rw [List.length_replicate]; omega), hj, upd_lst (rep_snoc j (V.bl true))⟩
      · obtain ⟨_, rfl⟩ := hp3
        have hgl : gd.length ≤ rs.length := nodup_le (hg.inc.imp fun z => Nat.ne_of_lt z) hg.lt
        walk_at "go"
        refine i_all (bs := List.replicate _ true) (by rw [upd_same, map_rep]) (all_rep _) ?_
        walk_at "go"
        have hp1' := s1 _ _ hp1
        have hg1' := s1 _ _ hp3.2
        have hgD : (upd H' D (.lst (List.replicate (gd.map vn).length (.bl true)))) pg = some (.tup (gd.map vn)) := by rw [upd_ne (ne_of_none hg1' hD)]; exact hg1'
        have hpD : (upd H' D (.lst (List.replicate (gd.map vn).length (.bl true)))) p = some (.ins C dx (flds al pm pg)) := by rw [upd_ne (ne_of_none hp1' hD)]; exact hp1'
        refine i_fldR hpD T.cl T.nG (flds_go al pm pg) ?_
        walk_at "go"
        rw [List.length_map] at hgD hpD ⊢
        refine ⟨by omega, by omega, fun E hE => ?_⟩
        refine rng0_lc (fun i H3 => i ≤ gd.length ∧ H3 = upd (upd H' D (.lst (List.replicate gd.length (.bl true)))) E (.lst (List.replicate i (.bl true)))) ⟨Nat.zero_le _, rfl⟩ (fun i H3 hi hq => ?_) (fun H3 hq => ?_)
        · obtain ⟨_, rfl⟩ := hq
          have hi2 : i + 1 < gd.length := by omega
          walk_at "go"
          refine i_fldR (by rw [upd_ne (ne_of_none hpD hE)]; exact hpD) T.cl T.nG (flds_go al pm pg) ?_
          walk_at "go"
          refine i_ixT (by rw [upd_ne (ne_of_none hgD hE)]; exact hgD) (vn_at (List.getElem?_eq_getElem (by omega : i < gd.length))) ?_
          walk_at "go"
          refine i_fldR (by rw [upd_ne (ne_of_none hpD hE)]; exact hpD) T.cl T.nG (flds_go al pm pg) ?_
          walk_at "go"
          refine i_ixT (by rw [upd_ne (ne_of_none hgD hE)]; exact hgD) (v := vn (gd[i + 1]'hi2)) (by exact vn_at (List.getElem?_eq_getElem hi2)) ?_
          walk_at "go"
          have hlt2 : gd[i]'(by omega) < gd[i + 1]'hi2 := List.pairwise_iff_getElem.mp hg.inc i (i + 1) _ _ (by omega)
          refine ⟨_, upd_same, szlt (by rw [List.length_replicate]; omega), by omega, upd_lst ?_⟩
          rw [decide_eq_true (by omega)]
          exact rep_snoc i (V.bl true)
        · obtain ⟨_, rfl⟩ := hq
          walk_at "go"
          exact i_all (bs := List.replicate _ true) (by rw [upd_same, map_rep]) (all_rep _) (k _ (((s1.trans (same_laid hD))).trans (same_laid hE)))
end
abbrev s_law_stays : Stmt := top 76
theorem sc_law_stays : FnScope ["alphabet", "machine", "reader", "row"] ["alphabet", "machine", "reader"] (fnScope s_law_stays) := ⟨rfl, rfl, rfl, by decide +kernel, rfl, by decide +kernel, by decide +kernel⟩
def sp_law_stays (C : Addr) : Sp := fun vs H Q _ => ∃ (Z : AS) (al : List Nat) (q p : Addr) (rs : Rws) (gd : List Nat), vs = [.str (SX.S al), .ref q, .ref p] ∧ Mach Z H q rs gd ∧ Rd C Z H p al rs gd ∧ AlOk al ∧ WF al.length rs ∧ GOK rs.length gd ∧ ∀ H', Same H H' → Q (.bl true) H'
section
variable {P : Program} {w : World} {K : PySem.W.Frag} {mg : Str → Option Value} {base : Heap} {C : Addr} {r : Er}
set_option maxHeartbeats 4000000 in
theorem ok_law_stays {f : Addr} {fd : FuncData} (F : Def K mg "_law_stays" s_law_stays f fd) (T : Txt K mg C r) (b : Binds K fd ["alphabet", "machine", "reader"] []) (c_law_is_reader : Cal P w K mg base 2 "_law_is_reader" (sp_law_is_reader C) []) : Cal P w K mg base 3 "_law_stays" (sp_law_stays C) [] := by
  refine cal0 F b .nil sc_law_stays (fun vs H Q E h => ?_) (fun cdv A outer s H vs Q E hr h => ?_)
  · obtain ⟨_, _, _, _, _, _, rfl, _⟩ := h
    rfl
  · obtain ⟨Z, al, q, p, rs, gd, rfl, hq, hp, ha, hw, hg, k⟩ := h
    refine ⟨_, (pss_cons (ps_if (pt_not (pt_val (pe_c c_law_is_reader hr (by decide) rfl (pa_cons (pv 2) (pa_cons (pv 0) pa_nil))))) (pss_one (ps_ret pe_bl)) pss_nil)
        (pss_one (ps_ret (pe_and (pe_cmpR (eqDK K rfl hr.units) (fldK K rfl (pv 2) rfl) (pe_callTy (tupleK K rfl) (by rfl) T.b_tuple (by decide +kernel) (pa_cons (pe_lc (own := [("row", 3)]) rfl sc_law_stays.nd (seqK K rfl (pe_ix (ixK K rfl) (pv 1) pe_int (fun _ _ => rfl))) (blkOk_by (by kernel_rfl)) (fun _ _ _ _ _ => (pg_name (i := 3) sc_law_stays.nd rfl (by first | exact Or.inl rfl | exact Or.inr rfl))) (fun _ _ _ _ _ => pts_nil) (fun _ _ _ _ _ => (pe_callTy (tupleK K rfl) (by rfl) T.b_tuple (by decide +kernel) (pa_cons (pv 3) pa_nil)))) pa_nil)) (nomark _)) (pe_one (pe_cmpR (eqDK K rfl hr.units) (fldK K rfl (pv 2) rfl) (pe_callTy (tupleK K rfl) (by rfl) T.b_tuple (by decide +kernel) (pa_cons (pe_ix (ixK K rfl) (pv 1) pe_int (fun _ _ => rfl)) pa_nil)) (nomark _))))))), ?_⟩
    walk_at "go"
    have hp0 := hp
    obtain ⟨hpZ, dx, pm, pg, hp1, hp2, hp3⟩ := hp
    obtain ⟨hqZ, qm, qg, hq1, hq2, hq3⟩ := hq
    obtain ⟨_, tq, as, hq4, hq5⟩ := id hq2
    obtain ⟨_, tg, hq6⟩ := id hq3
    have hlen : (as.map V.ref).length = rs.length := by rw [List.length_map, hq5.length]
    have hle := hw.le
    refine ⟨Z, p, al, rs, gd, rfl, hp0, ha, hw, hg, fun H1 s1 => ?_⟩
    walk_at "go"
    refine i_fldR (s1 _ _ hp1) T.cl T.nM (flds_mo al pm pg) ?_
    walk_at "go"
    refine i_ixT (s1 _ _ hq1) (i := 0) (v := .ref qm) rfl ?_
    refine seq_lc (s1 _ _ hq4) (fun D hD => ⟨fun j H3 => Same H1 H3 ∧ ∃ bs, H3 D = some (.lst (bs.map V.ref)) ∧ Paired (fun a r => IntsT (fun _ => False) H3 a r) bs (rs.take j), ⟨same_laid hD, [], upd_same, by simp; exact .nil⟩, fun j H3 _ ⟨e, _⟩ => e _ _ (s1 _ _ hq4), fun j v H3 hvj hp3' => ?_, fun H3 hp3' => ?_⟩)
    · obtain ⟨s3, bs, hD3, hbs⟩ := hp3'
      obtain ⟨a, hva, rfl⟩ := at_map hvj
      obtain ⟨rw', hrw, hia1, ti, hia2⟩ := Paired.at0 hq5 hva
      have hj : j < rs.length := (List.getElem?_eq_some_iff.mp hrw).1
      walk_at "go"
      refine i_tupleOf (s3 _ _ (s1 _ _ hia2)) (fun l H4 h1 h2 h3 => ?_)
      have hDl : l ≠ D := fun e => by
        rcases h3 with h3 | ⟨h3, _⟩
        · rw [e, hD3] at h3; cases h3
        · rw [← e, h3, s1 _ _ hia2] at hD; cases hD
      refine ⟨_, h2 _ _ hD3, szlt (by rw [List.length_map, hbs.length, List.length_take]; omega), Same.put (s3.trans h2) hD, bs ++ [l], by rw [upd_same, List.map_append]; rfl, ?_⟩
      rw [take_at hrw]
      have hk : Kp (fun b => b = D) H3 (upd H4 D (.lst (bs.map V.ref ++ [V.ref l]))) := fun b o n e => by
        rw [upd_ne n]
        exact h2 _ _ e
      refine U.Paired.snoc (Paired.mapP hbs fun b r z => ⟨z.1, ?_⟩) ⟨fun z => z, by rw [upd_ne hDl]; exact h1⟩
      refine hk _ _ (fun e => ?_) z.2
      have := z.2
      rw [e, hD3] at this
      cases this
    · obtain ⟨s3, bs, hD3, hbs⟩ := hp3'
      rw [hlen, List.take_length] at hbs
      walk_at "go"
      refine i_tupleOfL hD3 (fun l hl4 => ?_)
      have s4 : Same H1 (upd H3 l (.tup (bs.map V.ref))) := s3.trans (same_laid hl4)
      have s04 := s1.trans s4
      have hrl : RowsT (fun _ => False) (upd H3 l (.tup (bs.map V.ref))) l rs := ⟨fun z => z, bs, upd_same, Paired.mapP hbs fun b r z => z.same (same_laid hl4)⟩
      refine i_eqRows (hp2.same s04) hrl ?_
      walk_at "go"
      refine ite_dt rfl ?_
      walk_at "go"
      refine i_fldR (s04 _ _ hp1) T.cl T.nG (flds_go al pm pg) ?_
      walk_at "go"
      refine i_ixT (s04 _ _ hq1) (i := 1) (v := .ref qg) rfl ?_
      walk_at "go"
      refine i_tupleOf (s04 _ _ hq6) (fun l2 H5 h1 h2 h3 => ?_)
      have hgl : IntsT (fun _ => False) H5 l2 gd := ⟨fun z => z, h1⟩
      refine i_eqInts ((hp3.same s04).same h2) hgl ?_
      rw [decide_eq_true rfl]
      exact k _ (s04.trans h2)
end
abbrev s_law_changed : Stmt := top 71
theorem sc_law_changed : FnScope ["source", "told", "size", "at", "moves", "row", "p"] ["source", "told"] (fnScope s_law_changed) := ⟨rfl, rfl, rfl, by decide +kernel, rfl, by decide +kernel, by decide +kernel⟩
def sp_law_changed : Sp := fun vs H Q _ => ∃ (S : AS) (a p : Addr) (rs : Rws) (gd : List Nat) (m : Nat), vs = [.ref a, .ref p] ∧ S a ∧ Srcs S H ∧ Mach S H p rs gd ∧ 0 < m ∧ WF m rs ∧ GOK rs.length gd ∧ ∀ q rs' gd' H', Ev S H H' → Mach S H' q rs' gd' → WF m rs' → GOK rs'.length gd' → rs'.length = rs.length → Q (.ref q) H'
section
variable {P : Program} {w : World} {K : PySem.W.Frag} {mg : Str → Option Value} {base : Heap} {C : Addr} {r : Er}
set_option maxHeartbeats 4000000 in
theorem ok_law_changed {f : Addr} {fd : FuncData} (F : Def K mg "_law_changed" s_law_changed f fd) (T : Txt K mg C r) (b : Binds K fd ["source", "told"] []) (c_law_pick : Cal P w K mg base 1 "_law_pick" sp_law_pick []) : Cal P w K mg base 2 "_law_changed" (sp_law_changed) [] := by
  refine cal0 F b .nil sc_law_changed (fun vs H Q E h => ?_) (fun cdv A outer s H vs Q E hr h => ?_)
  · obtain ⟨_, _, _, _, _, _, rfl, _⟩ := h
    rfl
  · obtain ⟨S, a, p, rs, gd, m, rfl, ha, hS, hp, hm0, hw, hg, k⟩ := h
    refine ⟨_, (pss_cons (ps_set (i := 2) sc_law_changed.nd rfl (by first | exact Or.inl rfl | exact Or.inr rfl) (pe_callB (lenK K rfl) (by rfl) T.b_len (by decide +kernel) (pa_cons (pe_ix (ixK K rfl) (pv 1) pe_int (fun _ _ => rfl)) pa_nil)))
        (pss_cons (ps_set (i := 3) sc_law_changed.nd rfl (by first | exact Or.inl rfl | exact Or.inr rfl) (pe_c c_law_pick hr (by decide) rfl (pa_cons (pv 0) (pa_cons (pv 2) pa_nil))))
        (pss_cons (ps_if (pt_cmpR op_eq (pe_c c_law_pick hr (by decide) rfl (pa_cons (pv 0) (pa_cons pe_int pa_nil))) pe_int (nomark _)) (pss_one (ps_ret (pe_tup (pa_cons (pe_ix (ixK K rfl) (pv 1) pe_int (fun _ _ => rfl)) (pa_cons (pe_lc (own := [("p", 6)]) rfl sc_law_changed.nd (pi_range1 (by rfl) T.b_range (pa_cons (pv 2) pa_nil)) (blkOk_by (by kernel_rfl)) (fun _ _ _ _ _ => (pg_name (i := 6) sc_law_changed.nd rfl (by first | exact Or.inl rfl | exact Or.inr rfl))) (fun _ _ _ _ _ => (pts_one (pt_cmpR op_ne (pe_cmpR (inK K rfl) (pv 6) (pe_ix (ixK K rfl) (pv 1) pe_int (fun _ _ => rfl)) rfl) (pe_cmpR op_eq (pv 6) (pv 3) (nomark _)) (nomark _)))) (fun _ _ _ _ _ => (pv 6))) pa_nil))))) pss_nil)
        (pss_cons (ps_setLc (i := 4) (own := [("row", 5)]) rfl sc_law_changed.nd rfl rfl (sw_true rfl rfl rfl (by decide +kernel)) (seqK K rfl (pe_ix (ixK K rfl) (pv 1) pe_int (fun _ _ => rfl))) (blkOk_by (by kernel_rfl)) (fun _ _ _ _ _ => (pg_name (i := 5) sc_law_changed.nd rfl (by first | exact Or.inl rfl | exact Or.inr rfl))) (fun _ _ _ _ _ => pts_nil) (fun _ _ _ _ _ => (pe_callTy (listK K rfl) (by rfl) T.b_list (by decide +kernel) (pa_cons (pv 5) pa_nil))))
        (pss_cons (ps_set (i := 5) sc_law_changed.nd rfl (by first | exact Or.inl rfl | exact Or.inr rfl) (pe_ix (ixK K rfl) (pv 4) (pv 3) (fun _ _ => rfl)))
        (pss_cons (ps_asg (pe_c c_law_pick hr (by decide) rfl (pa_cons (pv 0) (pa_cons (pv 2) pa_nil))) (pg_sub (pv 5) (pe_c c_law_pick hr (by decide) rfl (pa_cons (pv 0) (pa_cons (pe_callB (lenK K rfl) (by rfl) T.b_len (by decide +kernel) (pa_cons (pv 5) pa_nil)) pa_nil))) set_list))
        (pss_one (ps_ret (pe_tup (pa_cons (pv 4) (pa_cons (pe_callTy (listK K rfl) (by rfl) T.b_list (by decide +kernel) (pa_cons (pe_ix (ixK K rfl) (pv 1) pe_int (fun _ _ => rfl)) pa_nil)) pa_nil))))))))))), ?_⟩
    walk_at "go"
    have hp0 := hp
    obtain ⟨hpS, pm, pg, hp1, hp2, hp3⟩ := hp
    obtain ⟨hmS, tm, as, hm1, hm2⟩ := id hp2
    obtain ⟨hgS, tg, hg1⟩ := id hp3
    have hlen : (as.map V.ref).length = rs.length := by rw [List.length_map, hm2.length]
    have hle := hw.le
    have hpos := hw.pos
    refine i_ixT hp1 (i := 0) (v := .ref pm) rfl ?_
    walk_at "go"
    refine i_lenQ hm1 ?_
    rw [hlen]
    walk_at "go"
    refine ⟨S, a, _, rfl, ha, hS, by omega, by omega, fun d H1 g0 g1 e1 => ?_⟩
    obtain ⟨d, rfl⟩ := Int.eq_ofNat_of_zero_le g0
    have hd : d < rs.length := by omega
    walk_at "go"
    refine ⟨S, a, _, rfl, ha, e1.src, by omega, by omega, fun x H2 g2 g3 e2 => ?_⟩
    have e02 := e1.trans e2
    have hS2 := e02.src
    have hp1' := e02.at hpS hp1
    have hm1' := e02.at hmS hm1
    have hg1' := e02.at hgS hg1
    walk_at "go"
    refine iteD (fun hx => ?_) (fun hx => ?_)
    · walk_at "go"
      refine ⟨by omega, by omega, fun D hD => ?_⟩
      rw [Int.toNat_natCast]
      refine rng0_lc (fun i H3 => i ≤ rs.length ∧ H3 = upd H2 D (.lst (((List.range i).filter fun p => (decide (p ∈ gd) != decide (p = d))).map vn))) ⟨Nat.zero_le _, rfl⟩ (fun i H3 hi hq => ?_) (fun H3 hq => ?_)
      · obtain ⟨_, rfl⟩ := hq
        walk_at "go"
        refine i_ixT (by rw [upd_ne (ne_of_none hp1' hD)]; exact hp1') (i := 1) (v := .ref pg) rfl ?_
        refine i_inI (by rw [upd_ne (ne_of_none hg1' hD)]; exact hg1') ?_
        walk_at "go"
        have hc : (!decide (decide (i ∈ gd) = decide ((i : Int) = (d : Int)))) = (decide (i ∈ gd) != decide (i = d)) := by
          have e : decide ((i : Int) = (d : Int)) = decide (i = d) := by
            by_cases h : i = d
            · subst h; simp
            · rw [decide_eq_false h, decide_eq_false (by omega)]
          rw [e]
          cases decide (i ∈ gd) <;> cases decide (i = d) <;> rfl
        rw [hc]
        have hfl : (((List.range i).filter fun p => (decide (p ∈ gd) != decide (p = d))).map vn).length < 16777216 := by
          rw [List.length_map]
          have := List.length_filter_le (fun p => (decide (p ∈ gd) != decide (p = d))) (List.range i)
          rw [List.length_range] at this
          omega
        refine iteB (fun hb => ?_) (fun hb => ?_)
        · walk_at "go"
          exact ⟨_, upd_same, szlt hfl, hi, upd_lst (by rw [range_filter_t (f := fun p => (decide (p ∈ gd) != decide (p = d))) hb, List.map_append]; rfl)⟩
        · exact ⟨hi, by rw [range_filter_f (f := fun p => (decide (p ∈ gd) != decide (p = d))) hb]⟩
      · obtain ⟨_, rfl⟩ := hq
        walk_at "go"
        refine ⟨sz2, fun q hq => ?_⟩
        have e3 : Ev S H2 (upd H2 D (.lst (((List.range rs.length).filter fun p => (decide (p ∈ gd) != decide (p = d))).map vn))) := .laid hS2 hD
        have e4 := Ev.laid (o := .tup [.ref pm, .ref D]) e3.src hq
        exact k q rs _ _ ((e02.trans e3).trans e4) ⟨e3.src.notin hq, pm, D, upd_same, ((hp2.ev e02).ev e3).ev e4, hS2.notin hD, false, e4.at (hS2.notin hD) upd_same⟩ hw (GOK.filter _) rfl
    · walk_at "go"
      have hm0 := hm0
      refine seq_lc hm1' (fun D hD => ⟨fun j H3 => Same H2 H3 ∧ ∃ bs, H3 D = some (.lst (bs.map V.ref)) ∧ Paired (fun a r => H2 a = none ∧ a ≠ D ∧ H3 a = some (.lst (r.map vn))) bs (rs.take j) ∧ bs.Nodup, ⟨same_laid hD, [], upd_same, by simp; exact .nil, List.nodup_nil⟩, fun j H3 _ ⟨e, _⟩ => e _ _ hm1', fun j v H3 hvj hq => ?_, fun H3 hq => ?_⟩)
      · obtain ⟨s3, bs, hD3, hbs, hnd⟩ := hq
        obtain ⟨b, hvb, rfl⟩ := at_map hvj
        obtain ⟨rw', hrw, hia⟩ := Paired.at0 hm2 hvb
        obtain ⟨hia1, ti, hia2⟩ := hia.ev e02
        have hj : j < rs.length := (List.getElem?_eq_some_iff.mp hrw).1
        walk_at "go"
        refine i_listOf (s3 _ _ hia2) (fun l hl => ?_)
        have hlD : l ≠ D := (ne_of_none hD3 hl).symm
        refine ⟨bs.map V.ref, by rw [upd_ne hlD.symm]; exact hD3, szlt (by rw [List.length_map, hbs.length, List.length_take]; omega), Same.put (s3.trans (same_laid hl)) hD, bs ++ [l], by rw [upd_same, List.map_append]; rfl, ?_, ?_⟩
        · rw [take_at hrw]
          refine U.Paired.snoc (Paired.mapP hbs fun b r z => ⟨z.1, z.2.1, ?_⟩) ⟨same_free s3 hl, hlD, by rw [upd_ne hlD, upd_same]⟩
          rw [upd_ne z.2.1, upd_ne (ne_of_none z.2.2 hl)]
          exact z.2.2
        · rw [List.nodup_append]
          refine ⟨hnd, by simp, fun x hx y hy e => ?_⟩
          rw [List.mem_singleton.mp hy] at e
          obtain ⟨q, hq⟩ := List.mem_iff_getElem?.mp hx
          obtain ⟨r', _, _, _, hz⟩ := Paired.at0 hbs hq
          rw [e, hl] at hz
          cases hz
      · obtain ⟨s3, bs, hD3, hbs, hnd⟩ := hq
        rw [hlen, List.take_length] at hbs
        have e3 : Ev S H2 H3 := .of_same hS2 s3
        walk_at "go"
        obtain ⟨b, hb1⟩ : ∃ b, bs[d]? = some b := ⟨_, List.getElem?_eq_getElem (by rw [hbs.length]; exact hd)⟩
        obtain ⟨rw', hrw, hbF, hbD, hb3⟩ := Paired.at0 hbs hb1
        have hbS := hS2.notin hbF
        have erow : row rs d = rw' := Option.some.inj ((row_at hd).symm.trans hrw)
        have hwl := hw.wid _ (List.mem_of_getElem? hrw)
        have hm3 := hw.m3
        refine i_ixL hD3 (v := .ref b) (atI_nat (map_at hb1)) ?_
        walk_at "go"
        refine ⟨S, a, _, rfl, ha, e3.src, by omega, by omega, fun x H4 g4 g5 e4 => ?_⟩
        obtain ⟨x, rfl⟩ := Int.eq_ofNat_of_zero_le g4
        have hb4 := e4.at hbS hb3
        walk_at "go"
        have hD4 := e4.at (hS2.notin hD) hD3
        refine ⟨S, a, _, rfl, ha, e4.src, by rw [List.length_map]; omega, by rw [List.length_map]; omega, fun y H5 g6 g7 e5 => ?_⟩
        obtain ⟨y, rfl⟩ := Int.eq_ofNat_of_zero_le g6
        have hy : y < rw'.length := by
          rw [List.length_map] at g7
          omega
        have hb5 := e5.at hbS hb4
        have hD5 := e5.at (hS2.notin hD) hD4
        refine i_setL hb5 (ixN_nat (by rw [List.length_map]; exact hy)) ?_
        have hset : (rw'.map vn).set y (.int (x : Int)) = (rw'.set y x).map vn := (List.map_set).symm
        rw [hset]
        have e45 := e4.trans e5
        have e6 : Ev S H2 (upd H5 b (.lst ((rw'.set y x).map vn))) := Ev.put hS2 (e3.trans e45) hbF
        have hD6 : (upd H5 b (.lst ((rw'.set y x).map vn))) D = some (.lst (bs.map V.ref)) := by rw [upd_ne hbD.symm]; exact hD5
        have hrows : Paired (fun a r => Ints S (upd H5 b (.lst ((rw'.set y x).map vn))) a r) bs (rs.set d (rw'.set y x)) := by
          refine paired_of (by rw [List.length_set, hbs.length]) fun i c r hc hr => ?_
          by_cases hid : i = d
          · subst hid
            rw [hb1] at hc
            cases hc
            rw [List.getElem?_set_self hd] at hr
            cases hr
            exact ⟨hbS, false, upd_same⟩
          · rw [List.getElem?_set_ne (fun e => hid e.symm)] at hr
            obtain ⟨r', hr', h1, h2, h3⟩ := Paired.at0 hbs hc
            rw [hr] at hr'
            cases hr'
            have hcb : c ≠ b := fun e => by
              obtain ⟨hi1, hi2⟩ := List.getElem?_eq_some_iff.mp hc
              obtain ⟨hi3, hi4⟩ := List.getElem?_eq_some_iff.mp hb1
              have pw := List.pairwise_iff_getElem.mp hnd
              rcases Nat.lt_or_gt_of_ne hid with z | z
              · exact pw i d hi1 hi3 z (by rw [hi2, hi4, e])
              · exact pw d i hi3 hi1 z (by rw [hi2, hi4, e])
            exact ⟨hS2.notin h1, false, by rw [upd_ne hcb]; exact e45.at (hS2.notin h1) h3⟩
        generalize hH6 : upd H5 b (.lst ((rw'.set y x).map vn)) = H6 at *
        have hS6 := e6.src
        walk_at "go"
        refine i_ixT (e6.at hpS hp1') (i := 1) (v := .ref pg) rfl ?_
        walk_at "go"
        refine i_listOf (e6.at hgS hg1') (fun G hG => ?_)
        refine ⟨sz2, fun q hq => ?_⟩
        have e7 := Ev.laid (o := .lst (gd.map vn)) hS6 hG
        have e8 := Ev.laid (o := .tup [.ref D, .ref G]) e7.src hq
        refine k q (rs.set d (rw'.set y x)) gd _ ((e02.trans e6).trans (e7.trans e8)) ⟨e7.src.notin hq, D, G, upd_same, ⟨hS2.notin hD, false, bs, e8.at (hS2.notin hD) (e7.at (hS2.notin hD) hD6), Paired.mapP hrows fun _ _ z => (z.ev e7).ev e8⟩, hS6.notin hG, false, e8.at (hS6.notin hG) upd_same⟩ (.of (by rw [List.length_set]; exact hpos) (by rw [List.length_set]; exact hle) hm3 (fun r hr => ?_) (fun r hr t ht => ?_)) (by rw [List.length_set]; exact hg) (List.length_set ..)
        · rcases List.mem_or_eq_of_mem_set hr with hr | hr
          · exact hw.wid r hr
          · rw [hr, List.length_set]; exact hwl
        · rw [List.length_set]
          rcases List.mem_or_eq_of_mem_set hr with hr | hr
          · exact hw.lt r hr t ht
          · rw [hr] at ht
            rcases List.mem_or_eq_of_mem_set ht with ht | ht
            · exact hw.lt _ (List.mem_of_getElem? hrw) t ht
            · rw [ht]; omega
end
abbrev s_law_line : Stmt := top 62
theorem sc_law_line : FnScope ["alphabet", "word", "cut", "size", "moves", "k", "ahead", "letter", "one"] ["alphabet", "word", "cut"] (fnScope s_law_line) := ⟨rfl, rfl, rfl, by decide +kernel, rfl, by decide +kernel, by decide +kernel⟩
def sp_law_line : Sp := fun vs H Q _ => ∃ (al w z : List Nat) (cut : Int), vs = [.str (SX.S al), .str (SX.S z), .int cut] ∧ AlOk al ∧ Word al w z ∧ 0 < z.length ∧ z.length ≤ 40 ∧ -1 ≤ cut ∧ cut ≤ 40 ∧ ∀ (Z : AS) q rs gd H', Z = Old H → Same H H' → Mach Z H' q rs gd → WF al.length rs → GOK rs.length gd → rs.length ≤ 60 → Q (.ref q) H'
section
variable {P : Program} {w : World} {K : PySem.W.Frag} {mg : Str → Option Value} {base : Heap} {C : Addr} {r : Er}
set_option maxHeartbeats 4000000 in
theorem ok_law_line {f : Addr} {fd : FuncData} (F : Def K mg "_law_line" s_law_line f fd) (T : Txt K mg C r) (b : Binds K fd ["alphabet", "word", "cut"] []) : Cal P w K mg base 1 "_law_line" (sp_law_line) [] := by
  refine cal0 F b .nil sc_law_line (fun vs H Q E h => ?_) (fun cdv A outer s H vs Q E hr h => ?_)
  · obtain ⟨_, _, _, _, rfl, _⟩ := h
    rfl
  · obtain ⟨al, w, z, cut, rfl, ha, hz, hz0, hz1, hc0, hc1, k⟩ := h
    refine ⟨_, (C8.pss_cut (ps_set (i := 3) sc_law_line.nd rfl (by first | exact Or.inl rfl | exact Or.inr rfl) (pe_ifExp (pt_cmpR op_lt (pv 2) pe_int (nomark _)) (pe_callB (lenK K rfl) (by rfl) T.b_len (by decide +kernel) (pa_cons (pv 1) pa_nil)) (pe_op op_add (pv 2) pe_int)))
        (pss_cons (ps_set (i := 4) sc_law_line.nd rfl (by first | exact Or.inl rfl | exact Or.inr rfl) (pe_lst pa_nil))
        (pss_cons (ps_for PassesOwn.never rfl (pi_range1 (by rfl) T.b_range (pa_cons (pv 3) pa_nil)) (pg_name (i := 5) sc_law_line.nd rfl (by first | exact Or.inl rfl | exact Or.inr rfl))
        (C8.pss_cut (ps_set (i := 6) sc_law_line.nd rfl (by first | exact Or.inl rfl | exact Or.inr rfl) (pe_ifExp (pt_cmpR op_lt (pe_op op_add (pv 5) pe_int) (pv 3) (nomark _)) (pe_op op_add (pv 5) pe_int) (pe_ifExp (pt_cmpR op_lt (pv 2) pe_int (nomark _)) pe_int (pv 3))))
        (pss_cons (ps_set (i := 7) sc_law_line.nd rfl (by first | exact Or.inl rfl | exact Or.inr rfl) (pe_ix (ixK K rfl) (pv 1) (pe_op op_mod (pe_callTy int1 (by rfl) T.b_int (by decide +kernel) (pa_cons (pv 5) pa_nil)) (pe_callB (lenK K rfl) (by rfl) T.b_len (by decide +kernel) (pa_cons (pv 1) pa_nil))) (fun _ _ => rfl)))
        (pss_one (ps_expr (bmK K rfl (pe_bm PySem.F.plainAttrs_list PySem.F.slot_list_append PySem.F.type_list_append mt_append (pv 4) (pa_cons (pe_lc (own := [("one", 8)]) rfl sc_law_line.nd (pi_str (pv 0)) (blkOk_by (by kernel_rfl)) (fun _ _ _ _ _ => (pg_name (i := 8) sc_law_line.nd rfl (by first | exact Or.inl rfl | exact Or.inr rfl))) (fun _ _ _ _ _ => pts_nil) (fun _ _ _ _ _ => (pe_ifExp (pt_cmpR op_eq (pv 8) (pv 7) (nomark _)) (pv 6) (pv 3)))) pa_nil))))))))
        (pss_cons (ps_expr (bmK K rfl (pe_bm PySem.F.plainAttrs_list PySem.F.slot_list_append PySem.F.type_list_append mt_append (pv 4) (pa_cons (pe_lc (own := [("one", 8)]) rfl sc_law_line.nd (pi_str (pv 0)) (blkOk_by (by kernel_rfl)) (fun _ _ _ _ _ => (pg_name (i := 8) sc_law_line.nd rfl (by first | exact Or.inl rfl | exact Or.inr rfl))) (fun _ _ _ _ _ => pts_nil) (fun _ _ _ _ _ => (pv 3))) pa_nil))))
        (pss_one (ps_ret (pe_tup (pa_cons (pv 4) (pa_cons (pe_lc (own := [("k", 5)]) rfl sc_law_line.nd (pi_range1 (by rfl) T.b_range (pa_cons (pv 3) pa_nil)) (blkOk_by (by kernel_rfl)) (fun _ _ _ _ _ => (pg_name (i := 5) sc_law_line.nd rfl (by first | exact Or.inl rfl | exact Or.inr rfl))) (fun _ _ _ _ _ => pts_nil) (fun _ _ _ _ _ => (pv 5))) pa_nil))))))))), ?_⟩
    walk_at "go"
    have hl : (SX.S z).length = z.length := SX.S_len z
    have hla : (SX.S al).length = al.length := SX.S_len al
    have ha3 := ha.le
    have hwz := hz.len
    refine i_cut (fun σ H' => ∃ size : Nat, 0 ≤ size ∧ size ≤ 41 ∧ H' = H ∧ σ = [some (.str (SX.S al)), some (.str (SX.S z)), some (.int cut), some (vn size), none, none, none, none, none]) ?_ (fun σ H' hq => ?_)
    · walk_at "go"
      refine iteD (fun h => ?_) (fun h => ?_)
      · walk_at "go"
        refine i_lenS (szl (by omega)) ?_
        walk_at "go"
        exact ⟨_, Nat.zero_le _, by omega, rfl, rfl⟩
      · walk_at "go"
        obtain ⟨c, rfl⟩ := Int.eq_ofNat_of_zero_le (show 0 ≤ cut by omega)
        exact ⟨c + 1, Nat.zero_le _, by omega, rfl, rfl⟩
    · obtain ⟨size, _, hs1, rfl, rfl⟩ := hq
      walk_at "go"
      refine ⟨szl (by show 0 ≤ 16777216; decide), fun M hM => ?_⟩
      walk_at "go"
      refine ⟨by omega, by omega, ?_⟩
      rw [Int.toNat_natCast]
      have rowOf : ∀ (H1 : Hp) (f : Nat → Nat) (D : Addr), True := fun _ _ _ => trivial
      refine rng0_for (fun i σ H1 => ∃ x5 x6 x7, σ = [some (.str (SX.S al)), some (.str (SX.S z)), some (.int cut), some (vn size), some (.ref M), x5, x6, x7, none] ∧ Same H' H1 ∧ ∃ bs rws, H1 M = some (.lst (bs.map V.ref)) ∧ Paired (fun a r => Ints (fun b => Old H' b ∨ b = M) H1 a r) bs rws ∧ rws.length = i ∧ ∀ r ∈ rws, r.length = al.length ∧ ∀ t ∈ r, t ≤ size)
        ⟨none, none, none, rfl, same_laid hM, [], [], upd_same, .nil, rfl, by simp⟩ (fun i σ H1 hi hq => ?_) (fun σ H1 hq => ?_)
      · obtain ⟨x5, x6, x7, rfl, s1, bs, rws, hM1, hbs, hlen, hrw⟩ := hq
        walk_at "go"
        refine i_cut (fun σ H2 => ∃ ah : Nat, ah ≤ size ∧ H2 = H1 ∧ σ = [some (.str (SX.S al)), some (.str (SX.S z)), some (.int cut), some (vn size), some (.ref M), some (vn i), some (vn ah), x7, none]) ?_ (fun σ H2 hq => ?_)
        · walk_at "go"
          refine iteD (fun h => ?_) (fun h => ?_)
          · walk_at "go"
            exact ⟨i + 1, hi, rfl, rfl⟩
          · walk_at "go"
            refine iteD (fun h => ?_) (fun h => ?_)
            · walk_at "go"
              exact ⟨0, Nat.zero_le _, rfl, rfl⟩
            · walk_at "go"
              exact ⟨size, Nat.le_refl _, rfl, rfl⟩
        · obtain ⟨ah, hah, rfl, rfl⟩ := hq
          walk_at "go"
          refine i_lenS (szl (by omega)) ?_
          walk_at "go"
          have hmod : i % z.length < z.length := Nat.mod_lt _ hz0
          refine i_ixS (szl (by omega)) (c := z[i % z.length]'hmod) (by rw [hl, show ((i : Int) % (z.length : Int)) = ((i % z.length : Nat) : Int) from rfl]; exact S_at (List.getElem?_eq_getElem _)) ?_
          generalize z[i % z.length]'hmod = lt
          walk_at "go"
          intro D hD
          have hDM : D ≠ M := (ne_of_none hM1 hD).symm
          refine str_lc (fun j H3 => j ≤ al.length ∧ H3 = upd H2 D (.lst (((al.take j).map fun c => if c = lt then ah else size).map vn))) ⟨Nat.zero_le _, rfl⟩ (fun j c H3 hc hq => ?_) (fun H3 hq => ?_)
          · obtain ⟨_, rfl⟩ := hq
            have hc' : al[j]? = some c := by simpa [SX.S] using hc
            have hj := (List.getElem?_eq_some_iff.mp hc').1
            walk_at "go"
            have fin : ∀ v : Nat, v = (if c = lt then ah else size) → (∃ acc, (upd H2 D (.lst (((al.take j).map fun c => if c = lt then ah else size).map vn))) D = some (.lst acc) ∧ acc.length < sizeLine ∧ j + 1 ≤ al.length ∧ upd (upd H2 D (.lst (((al.take j).map fun c => if c = lt then ah else size).map vn))) D (.lst (acc ++ [vn v])) = upd H2 D (.lst (((al.take (j + 1)).map fun c => if c = lt then ah else size).map vn))) := fun v e => ⟨_, upd_same, szlt (by rw [List.length_map, List.length_map, List.length_take]; omega), hj, upd_lst (by rw [take_at hc', List.map_append, List.map_append, e]; rfl)⟩
            refine iteD (fun h => ?_) (fun h => ?_)
            · have h' : c = lt := by
                have : (⟨#[c]⟩ : Str) = ⟨#[lt]⟩ := h
                injection this with h1
                injection h1 with h1
                injection h1
              walk_at "go"
              exact fin ah (by rw [if_pos h'])
            · have h' : ¬ c = lt := fun e => h (by rw [e])
              walk_at "go"
              exact fin size (by rw [if_neg h'])
          · obtain ⟨_, rfl⟩ := hq
            walk_at "go"
            rw [show (SX.S al).cps.size = al.length from hla, List.take_length]
            have hk : Kp (fun b => Old H' b ∨ b = M) H2 (upd (upd H2 D (.lst ((al.map fun c => if c = lt then ah else size).map vn))) M (.lst (bs.map V.ref ++ [V.ref D]))) := fun b o n e => by
              rw [upd_ne (fun z => n (.inr z)), upd_ne (ne_of_none e hD)]
              exact e
            refine i_append (xs := bs.map V.ref) (by rw [upd_ne hDM.symm]; exact hM1) (by rw [List.length_map, hbs.length]; omega) ?_
            walk_at "go"
            refine ⟨_, _, _, rfl, Same.put (s1.trans (same_laid hD)) hM, bs ++ [D], rws ++ [al.map fun c => if c = lt then ah else size], by rw [upd_same, List.map_append]; rfl, ?_, by simp [hlen], fun r hr => ?_⟩
            · exact U.Paired.snoc (Paired.mapP hbs fun b r z => z.kp hk fun _ z => z) ⟨fun z => z.elim (Old.none (same_free s1 hD)) hDM, false, by rw [upd_ne hDM, upd_same]; rfl⟩
            · rcases List.mem_append.mp hr with hr | hr
              · exact hrw r hr
              · rw [List.mem_singleton.mp hr]
                refine ⟨List.length_map .., fun t ht => ?_⟩
                obtain ⟨c, _, rfl⟩ := List.mem_map.mp ht
                show (if c = lt then ah else size) ≤ size
                split
                · exact hah
                · exact Nat.le_refl _
      · obtain ⟨x5, x6, x7, rfl, s1, bs, rws, hM1, hbs, hlen, hrw⟩ := hq
        walk_at "go"
        intro D hD
        have hDM : D ≠ M := (ne_of_none hM1 hD).symm
        refine str_lc (fun j H3 => j ≤ al.length ∧ H3 = upd H1 D (.lst ((List.replicate j size).map vn))) ⟨Nat.zero_le _, rfl⟩ (fun j c H3 hc hq => ?_) (fun H3 hq => ?_)
        · obtain ⟨_, rfl⟩ := hq
          have hc' : al[j]? = some c := by simpa [SX.S] using hc
          have hj := (List.getElem?_eq_some_iff.mp hc').1
          walk_at "go"
          exact ⟨_, upd_same, szlt (by rw [List.length_map, List.length_replicate]; omega), hj, upd_lst (by rw [List.replicate_succ', List.map_append]; rfl)⟩
        · obtain ⟨_, rfl⟩ := hq
          walk_at "go"
          rw [show (SX.S al).cps.size = al.length from hla]
          have hk : Kp (fun b => Old H' b ∨ b = M) H1 (upd (upd H1 D (.lst ((List.replicate al.length size).map vn))) M (.lst (bs.map V.ref ++ [V.ref D]))) := fun b o n e => by
            rw [upd_ne (fun z => n (.inr z)), upd_ne (ne_of_none e hD)]
            exact e
          refine i_append (xs := bs.map V.ref) (by rw [upd_ne hDM.symm]; exact hM1) (by rw [List.length_map, hbs.length]; omega) ?_
          walk_at "go"
          have s2 : Same H' (upd (upd H1 D (.lst ((List.replicate al.length size).map vn))) M (.lst (bs.map V.ref ++ [V.ref D]))) := Same.put (s1.trans (same_laid hD)) hM
          have hbs2 : Paired (fun a r => Ints (fun b => Old H' b ∨ b = M) (upd (upd H1 D (.lst ((List.replicate al.length size).map vn))) M (.lst (bs.map V.ref ++ [V.ref D]))) a r) (bs ++ [D]) (rws ++ [List.replicate al.length size]) := U.Paired.snoc (Paired.mapP hbs fun b r z => z.kp hk fun _ z => z) ⟨fun z => z.elim (Old.none (same_free s1 hD)) hDM, false, by rw [upd_ne hDM, upd_same]; rfl⟩
          generalize hH2 : upd (upd H1 D (.lst ((List.replicate al.length size).map vn))) M (.lst (bs.map V.ref ++ [V.ref D])) = H2 at *
          have hM2 : H2 M = some (.lst ((bs ++ [D]).map V.ref)) := by rw [← hH2, upd_same, List.map_append]; rfl
          refine ⟨by omega, by omega, fun G hG => ?_⟩
          rw [Int.toNat_natCast]
          refine rng0_lc (fun q H3 => q ≤ size ∧ H3 = upd H2 G (.lst ((List.range q).map vn))) ⟨Nat.zero_le _, rfl⟩ (fun q H3 hi hq => ?_) (fun H3 hq => ?_)
          · obtain ⟨_, rfl⟩ := hq
            walk_at "go"
            exact ⟨_, upd_same, szlt (by rw [List.length_map, List.length_range]; omega), hi, upd_lst (by rw [List.range_succ, List.map_append]; rfl)⟩
          · obtain ⟨_, rfl⟩ := hq
            walk_at "go"
            refine ⟨sz2, fun q hq => ?_⟩
            have s3 : Same H2 (upd (upd H2 G (.lst ((List.range size).map vn))) q (.tup [.ref M, .ref G])) := (same_laid hG).trans (same_laid hq)
            have nz : ∀ {Z : AS}, TO Z H' → ∀ {x}, H' x = none → ¬ Z x := fun hZ x hx => hZ.new hx
            refine k (Old H') q (rws ++ [List.replicate al.length size]) (List.range size) _ rfl (s2.trans s3) ⟨Old.none (same_free (s2.trans (same_laid hG)) hq), M, G, upd_same, ⟨Old.none hM, false, bs ++ [D], s3 _ _ hM2, Paired.mapP hbs2 fun b r z => (z.same s3).weak fun _ y => .inl y⟩, Old.none (same_free s2 hG), false, ?_⟩ (.of (by simp) (by rw [List.length_append, hlen]; show size + 1 ≤ 60; omega) ha3 (fun r hr => ?_) (fun r hr t ht => ?_)) ⟨range_inc size, fun x hx => ?_⟩ (by rw [List.length_append, hlen]; show size + 1 ≤ 60; omega)
            · rw [upd_ne (ne_of_none upd_same hq), upd_same]
              rfl
            · rcases List.mem_append.mp hr with hr | hr
              · exact (hrw r hr).1
              · rw [List.mem_singleton.mp hr, List.length_replicate]
            · rw [List.length_append, hlen]
              show t < size + 1
              rcases List.mem_append.mp hr with hr | hr
              · exact Nat.lt_succ_of_le ((hrw r hr).2 t ht)
              · rw [List.mem_singleton.mp hr] at ht
                rw [(List.mem_replicate.mp ht).2]
                exact Nat.lt_succ_self _
            · have := List.mem_range.mp hx
              rw [List.length_append, hlen]
              show x < size + 1
              omega
end
abbrev s_parted_rooms : Stmt := top 29
theorem sc_parted_rooms : FnScope ["moves", "unlike", "found", "level", "later", "room", "row", "k", "target"] ["moves", "unlike"] (fnScope s_parted_rooms) := ⟨rfl, rfl, rfl, by decide +kernel, rfl, by decide +kernel, by decide +kernel⟩
def sp_parted_rooms : Sp := fun vs H Q _ => ∃ (Z : AS) (pM pU : Addr) (J : Rws) (g : Nat → Bool) (m : Nat), vs = [.ref pM, .ref pU] ∧ Rows Z H pM J ∧ H pU = some (.lst ((List.range J.length).map fun r => .bl (g r))) ∧ WFB m J ∧ 0 < m ∧
  (∀ H', Same H H' → LeastW m (fun u => g (run J 0 u) = true) none → Q .non H') ∧ (∀ w p H', Same H H' → H p = none → H' p = some (.tup (w.map vn)) → w.length ≤ 4000 → LeastW m (fun u => g (run J 0 u) = true) (some w) → Q (.ref p) H')
section
variable {P : Program} {w : World} {K : PySem.W.Frag} {mg : Str → Option Value} {base : Heap} {C : Addr} {r : Er}
set_option maxHeartbeats 4000000 in
theorem ok_parted_rooms {f : Addr} {fd : FuncData} (F : Def K mg "parted_rooms" s_parted_rooms f fd) (T : Txt K mg C r) (b : Binds K fd ["moves", "unlike"] []) : Cal P w K mg base 1 "parted_rooms" (sp_parted_rooms) [] := by
  refine cal0 F b .nil sc_parted_rooms (fun vs H Q E h => ?_) (fun cdv A outer s H vs Q E hr h => ?_)
  · obtain ⟨_, _, _, _, _, _, rfl, _⟩ := h
    rfl
  · obtain ⟨Z, pM, pU, J, g, m, rfl, hM, hU, hw, hm, kN, kW⟩ := h
    refine ⟨_, (pss_cons (ps_if (pt_val (pe_ix (ixK K rfl) (pv 1) pe_int (fun _ _ => rfl))) (pss_one (ps_ret (pe_tup pa_nil))) pss_nil)
        (pss_cons (ps_set (i := 2) sc_parted_rooms.nd rfl (by first | exact Or.inl rfl | exact Or.inr rfl) (pe_disp (pps_cons pe_int pe_bl pps_nil) (by rfl) (by rfl) (fun z => by cases z) (by decide)))
        (pss_cons (ps_set (i := 3) sc_parted_rooms.nd rfl (by first | exact Or.inl rfl | exact Or.inr rfl) (pe_lst (pa_cons (pe_tup (pa_cons pe_int (pa_cons (pe_tup pa_nil) pa_nil))) pa_nil)))
        (pss_cons (ps_while PassesOwn.never (pt_cmpR op_gt (pe_callB (lenK K rfl) (by rfl) T.b_len (by decide +kernel) (pa_cons (pv 3) pa_nil)) pe_int (nomark _)) (pss_cons (ps_set (i := 4) sc_parted_rooms.nd rfl (by first | exact Or.inl rfl | exact Or.inr rfl) (pe_lst pa_nil))
        (pss_cons (ps_for PassesOwn.never rfl (seqK K rfl (pv 3)) (pg_tup rfl (pgs_cons (pg_name (i := 5) sc_parted_rooms.nd rfl (by first | exact Or.inl rfl | exact Or.inr rfl)) (pgs_cons (pg_name (i := 6) sc_parted_rooms.nd rfl (by first | exact Or.inl rfl | exact Or.inr rfl)) pgs_nil)))
        (pss_one (ps_for PassesOwn.never rfl (enumRK K rfl (by rfl) T.b_enumerate (pa_cons (pe_ix (ixK K rfl) (pv 0) (pv 5) (fun _ _ => rfl)) pa_nil)) (pg_tup rfl (pgs_cons (pg_name (i := 7) sc_parted_rooms.nd rfl (by first | exact Or.inl rfl | exact Or.inr rfl)) (pgs_cons (pg_name (i := 8) sc_parted_rooms.nd rfl (by first | exact Or.inl rfl | exact Or.inr rfl)) pgs_nil)))
        (pss_one (ps_if (pt_cmp (pc_dnotin (hu_of hr) (pv 8) (pv 2))) (pss_cons (ps_if (pt_val (pe_ix (ixK K rfl) (pv 1) (pv 8) (fun _ _ => rfl))) (pss_one (ps_ret (pe_op (catAK K rfl) (pv 6) (pe_tup (pa_cons (pv 7) pa_nil))))) pss_nil)
        (pss_cons (ps_dput (hu_of hr) (pv 2) (pv 8) pe_bl rfl)
        (pss_one (ps_expr (bmK K rfl (pe_bm PySem.F.plainAttrs_list PySem.F.slot_list_append PySem.F.type_list_append mt_append (pv 4) (pa_cons (pe_tup (pa_cons (pv 8) (pa_cons (pe_op (catAK K rfl) (pv 6) (pe_tup (pa_cons (pv 7) pa_nil))) pa_nil))) pa_nil))))))) pss_nil)))))
        (pss_one (ps_set (i := 3) sc_parted_rooms.nd rfl (by first | exact Or.inl rfl | exact Or.inr rfl) (pe_callTy (listK K rfl) (by rfl) T.b_list (by decide +kernel) (pa_cons (pv 4) pa_nil)))))))
        (pss_one (ps_ret pe_non)))))), ?_⟩
    have hle := hw.le
    have hpos := hw.pos
    have hm3 := hw.m3
    have gat : ∀ r, r < J.length → atI ((List.range J.length).map fun r => V.bl (g r)) (r : Int) = some (.bl (g r)) := fun r hr => atI_nat (by rw [List.getElem?_map, List.getElem?_range hr] <;> rfl)
    walk_at "go"
    refine i_ixL hU (gat 0 hpos) ?_
    walk_at "go"
    refine iteB (fun h0 => ?_) (fun h0 => ?_)
    · walk_at "go"
      refine ⟨by decide, fun p hp => ?_⟩
      exact kW [] p _ (same_laid hp) hp upd_same (Nat.zero_le _) (.inr ⟨[], rfl, fun a h => by simp at h, h0, fun u _ _ => Nat.zero_le _⟩)
    walk_at "go"
    intro F hF
    walk_at "go"
    refine ⟨by decide, fun T0 hT0 => ?_⟩
    walk_at "go"
    refine ⟨sz2, fun T1 hT1 => ?_⟩
    walk_at "go"
    refine ⟨sz1, fun L0 hL0 => ?_⟩
    have eF : (upd H F (.dK [(Sum.inl 0, .bl true)])) F = some (.dK (mapK ((gW m (stp J) 0 0).map Prod.fst) fun _ => .bl true)) := upd_same
    have s1 : Same H (upd H F (.dK [(Sum.inl 0, .bl true)])) := same_laid hF
    generalize upd H F (.dK [(Sum.inl 0, .bl true)]) = H1 at *
    have s4 : Same H1 (upd (upd (upd H1 T0 (.tup [])) T1 (.tup [.int 0, .ref T0])) L0 (.lst [.ref T1])) := ((same_laid hT0).trans (same_laid hT1)).trans (same_laid hL0)
    have e4 := s4 _ _ eF
    have hL4 : (upd (upd (upd H1 T0 (.tup [])) T1 (.tup [.int 0, .ref T0])) L0 (.lst [.ref T1])) L0 = some (.lst ([T1].map V.ref)) := upd_same
    have hT14 : (upd (upd (upd H1 T0 (.tup [])) T1 (.tup [.int 0, .ref T0])) L0 (.lst [.ref T1])) T1 = some (.tup [.int 0, .ref T0]) := by rw [upd_ne (ne_of_none upd_same hL0), upd_same]
    have hT04 : (upd (upd (upd H1 T0 (.tup [])) T1 (.tup [.int 0, .ref T0])) L0 (.lst [.ref T1])) T0 = some (.tup []) := ((same_laid hT1).trans (same_laid hL0)) _ _ upd_same
    have hLv4 : LvR (upd (upd (upd H1 T0 (.tup [])) T1 (.tup [.int 0, .ref T0])) L0 (.lst [.ref T1])) [T1] ((gW m (stp J) 0 0).drop 0) := .cons ⟨T0, hT14, hT04⟩ .nil
    have s04 := s1.trans s4
    generalize upd (upd (upd H1 T0 (.tup [])) T1 (.tup [.int 0, .ref T0])) L0 (.lst [.ref T1]) = H4 at *
    walk_at "go"
    refine i_while 4002 (fun k σ H5 => ∃ (i : Nat) (Lv : Addr) (as : List Addr) (x4 x5 x6 x7 x8 : Option V), k ≤ i ∧ (∀ q, q < i → q < (gW m (stp J) 0 q).length) ∧ i ≤ (gW m (stp J) 0 i).length ∧ (∀ p ∈ gW m (stp J) 0 i, g p.1 = false) ∧ σ = [some (.ref pM), some (.ref pU), some (.ref F), some (.ref Lv), x4, x5, x6, x7, x8] ∧ Same H H5 ∧ H5 F = some (.dK (mapK ((gW m (stp J) 0 i).map Prod.fst) fun _ => .bl true)) ∧ H5 Lv = some (.lst (as.map V.ref)) ∧ LvR H5 as ((gW m (stp J) 0 i).drop i))
      ⟨0, L0, [T1], none, none, none, none, none, Nat.le_refl _, fun q h => absurd h (Nat.not_lt_zero q), Nat.zero_le _, fun p hp => by rw [List.mem_singleton.mp hp]; exact h0, rfl, s04, e4, hL4, hLv4⟩ (fun k σ H5 hz => ?_)
    obtain ⟨i, Lv, as, x4, x5, x6, x7, x8, hki, hok, hil, hno, rfl, s5, hF5, hL5, hLv5⟩ := hz
    have hasl : as.length = (gW m (stp J) 0 i).length - i := by rw [hLv5.length, List.length_drop]
    have hgl := gW_le hw i
    walk_at "go"
    rw [List.length_map]
    refine iteD (fun hx => ?_) (fun hx => ?_)
    · have hx' : 0 < as.length := by omega
      refine whT (by omega) ?_
      walk_at "go"
      refine ⟨by decide, fun R hR => ?_⟩
      have sR : Same H5 (upd H5 R (.lst [])) := same_laid hR
      have s6 := s5.trans sR
      have hF6 := sR _ _ hF5
      have hL6 := sR _ _ hL5
      have hLv6 := hLv5.same sR
      have hRH : H R = none := same_free s5 hR
      have hR6 : (upd H5 R (.lst [])) R = some (.lst (([] : List Addr).map V.ref)) := upd_same
      have hRL : R ≠ Lv := (ne_of_none hL5 hR).symm
      generalize upd H5 R (.lst []) = H6 at *
      walk_at "go"
      refine seq_for (t := false) hL6 (fun t σ H7 => ∃ (x5 x6 x7 x8 : Option V) (rs : List Addr), σ = [some (.ref pM), some (.ref pU), some (.ref F), some (.ref Lv), some (.ref R), x5, x6, x7, x8] ∧ Same H H7 ∧ H7 F = some (.dK (mapK ((gW m (stp J) 0 (i + t)).map Prod.fst) fun _ => .bl true)) ∧ H7 R = some (.lst (rs.map V.ref)) ∧ LvR H7 rs ((gW m (stp J) 0 (i + t)).drop (gW m (stp J) 0 i).length) ∧ H7 Lv = some (.lst (as.map V.ref)) ∧ LvR H7 as ((gW m (stp J) 0 i).drop i) ∧ (∀ p ∈ gW m (stp J) 0 (i + t), g p.1 = false) ∧ ∀ q, q < i + t → q < (gW m (stp J) 0 q).length)
        ⟨x5, x6, x7, x8, [], rfl, s6, hF6, hR6, by rw [Nat.add_zero, List.drop_length]; exact .nil, hL6, hLv6, hno, hok⟩ (fun t σ H7 _ ⟨_, _, _, _, _, _, _, _, _, _, h, _⟩ => h) (fun t v σ H7 hv hq => ?_) (fun σ H7 hq => ?_)
      · obtain ⟨y5, y6, y7, y8, rs, rfl, s7, hF7, hR7, hLr7, hL7, hLv7, hno7, hok7⟩ := hq
        obtain ⟨b, hb, rfl⟩ := at_map hv
        obtain ⟨⟨x, v⟩, hit, bw, hb1, hb2⟩ := Paired.at0 hLv7 hb
        rw [List.getElem?_drop] at hit
        have hit2 := gW_up hit (Nat.le_add_right i t)
        have hxJ : x < J.length := gW_lt hw _ _ (List.mem_of_getElem? hit)
        have htl : i + t < (gW m (stp J) 0 (i + t)).length := (List.getElem?_eq_some_iff.mp hit2).1
        have hvl : v.length ≤ i + t := gW_wl hm hok7 hit2
        have hgl7 := gW_le hw (i + t)
        obtain ⟨tr, vr, ar, hr1, hr2, hr3, hr4, tr5, hr6⟩ := hM.at hxJ
        have hwr := hw.row_len hxJ
        obtain ⟨zz, hzz⟩ := gW_mono (m := m) (st := stp J) (s := 0) i t
        have hj0 : (gW m (stp J) 0 i).length ≤ (gW m (stp J) 0 (i + t)).length := by rw [hzz, List.length_append]; omega
        walk_at "go"
        refine i_ixQ (s7 _ _ hr1) hr3 ?_
        refine enumR_for (s7 _ _ hr6) (fun a σ H8 => ∃ (x7 x8 : Option V) (rs : List Addr), σ = [some (.ref pM), some (.ref pU), some (.ref F), some (.ref Lv), some (.ref R), some (vn x), some (.ref bw), x7, x8] ∧ Same H H8 ∧ H8 F = some (.dK (mapK ((addsW (stp J) x v (gW m (stp J) 0 (i + t)) a).map Prod.fst) fun _ => .bl true)) ∧ H8 R = some (.lst (rs.map V.ref)) ∧ LvR H8 rs ((addsW (stp J) x v (gW m (stp J) 0 (i + t)) a).drop (gW m (stp J) 0 i).length) ∧ H8 Lv = some (.lst (as.map V.ref)) ∧ LvR H8 as ((gW m (stp J) 0 i).drop i) ∧ H8 bw = some (.tup (v.map vn)) ∧ ∀ p ∈ addsW (stp J) x v (gW m (stp J) 0 (i + t)) a, g p.1 = false)
          ⟨y7, y8, rs, rfl, s7, hF7, hR7, hLr7, hL7, hLv7, hb2, hno7⟩ (fun a σ H8 _ ⟨_, _, _, _, s8, _⟩ => s8 _ _ hr6) (fun a va TT σ H8 hva hq hTT => ?_) (fun σ H8 hq => ?_)
        · obtain ⟨z7, z8, rs, rfl, s8, hF8, hR8, hLr8, hL8, hLv8, hbw8, hno8⟩ := hq
          obtain ⟨u, hu, rfl⟩ := at_map hva
          have ha : a < m := by
            have := (List.getElem?_eq_some_iff.mp hu).1
            omega
          have hu2 : u = stp J x a := by
            have := hw.stp_at hxJ ha
            rw [hu] at this
            exact Option.some.inj this
          subst hu2
          have huJ := hw.stp_lt hxJ ha
          have hal := aW_le hw (k := i + t) (v := v) hxJ (show a ≤ m by omega)
          have sT : Same H8 (upd H8 TT (.tup [.int (a : Nat), .int (stp J x a : Int)])) := same_laid hTT
          have s9 := s8.trans sT
          have hF9 := sT _ _ hF8
          have hR9 := sT _ _ hR8
          have hLr9 := hLr8.same sT
          have hL9 := sT _ _ hL8
          have hLv9 := hLv8.same sT
          have hbw9 := sT _ _ hbw8
          have hT9 : (upd H8 TT (.tup [.int (a : Nat), .int (stp J x a : Int)])) TT = some (.tup [.int (a : Nat), .int (stp J x a : Int)]) := upd_same
          generalize upd H8 TT (.tup [.int (a : Nat), .int (stp J x a : Int)]) = H9 at *
          generalize hl : addsW (stp J) x v (gW m (stp J) 0 (i + t)) a = l at *
          have hnx : addsW (stp J) x v (gW m (stp J) 0 (i + t)) (a + 1) = addW (stp J) x v l a := by rw [addsW_succ, hl]
          walk_at "go"
          refine r_dnotin hF9 ?_
          walk_at "go"
          by_cases hin : stp J x a ∈ l.map Prod.fst
          · rw [valV_mapK_in hin]
            refine iteNT ?_
            walk_at "go"
            rw [hnx, addW, if_pos hin]
            exact ⟨_, _, rs, rfl, s9, hF9, hR9, hLr9, hL9, hLv9, hbw9, hno8⟩
          · rw [valV_mapK_no hin]
            refine iteNF ?_
            walk_at "go"
            refine i_ixL (s9 _ _ hU) (gat _ huJ) ?_
            walk_at "go"
            refine iteB (fun hg => ?_) (fun hg => ?_)
            · walk_at "go"
              refine ⟨sz1, fun T2 hT2 => ?_⟩
              have sT2 : Same H9 (upd H9 T2 (.tup [.int (a : Int)])) := same_laid hT2
              refine i_snocT (sT2 _ _ hbw9) upd_same (by rw [List.length_map]; omega) fun pp H10 s10 hp10 hfr => ?_
              have hppH : H pp = none := by
                rcases hfr with h | rfl
                · exact same_free (s9.trans sT2) h
                · exact same_free s9 hT2
              exact kW (v ++ [a]) pp H10 ((s9.trans sT2).trans s10) hppH (by rw [hp10, List.map_append] <;> rfl) (by rw [List.length_append]; show v.length + 1 ≤ 4000; omega) (gW_met hm hok7 hit2 ha hg (by rw [hl]; exact hno8))
            · have hnew : addW (stp J) x v l a = l ++ [(stp J x a, v ++ [a])] := by rw [addW, if_neg hin]
              have hput : putK (mapK (l.map Prod.fst) fun _ => V.bl true) (Sum.inl (stp J x a : Int)) (.bl true) = mapK ((l ++ [(stp J x a, v ++ [a])]).map Prod.fst) fun _ => .bl true := by
                rw [putK_mapK hin rfl, List.map_append] <;> rfl
              have hFR : F ≠ R := fun z => by rw [z, hR9] at hF9; cases hF9
              have hFL : F ≠ Lv := fun z => by rw [z, hL9] at hF9; cases hF9
              have hFb : F ≠ bw := fun z => by rw [z, hbw9] at hF9; cases hF9
              have hFn : ∀ vs, H9 F ≠ some (.tup vs) := by
                intro vs
                rw [hF9]
                intro z
                cases z
              walk_at "go"
              refine r_dput hF9 (by rw [mapK_len, List.length_map]; omega) ?_
              rw [hput]
              have s10 := Same.put (o := .dK (mapK ((l ++ [(stp J x a, v ++ [a])]).map Prod.fst) fun _ => .bl true)) s9 hF
              have hF10 : (upd H9 F (.dK (mapK ((l ++ [(stp J x a, v ++ [a])]).map Prod.fst) fun _ => .bl true))) F = some (.dK (mapK ((l ++ [(stp J x a, v ++ [a])]).map Prod.fst) fun _ => .bl true)) := upd_same
              have hR10 : (upd H9 F (.dK (mapK ((l ++ [(stp J x a, v ++ [a])]).map Prod.fst) fun _ => .bl true))) R = some (.lst (rs.map V.ref)) := by rw [upd_ne hFR.symm]; exact hR9
              have hL10 : (upd H9 F (.dK (mapK ((l ++ [(stp J x a, v ++ [a])]).map Prod.fst) fun _ => .bl true))) Lv = some (.lst (as.map V.ref)) := by rw [upd_ne hFL.symm]; exact hL9
              have hbw10 : (upd H9 F (.dK (mapK ((l ++ [(stp J x a, v ++ [a])]).map Prod.fst) fun _ => .bl true))) bw = some (.tup (v.map vn)) := by rw [upd_ne hFb.symm]; exact hbw9
              have hLr10 := hLr9.upd (o := .dK (mapK ((l ++ [(stp J x a, v ++ [a])]).map Prod.fst) fun _ => .bl true)) hFn
              have hLv10 := hLv9.upd (o := .dK (mapK ((l ++ [(stp J x a, v ++ [a])]).map Prod.fst) fun _ => .bl true)) hFn
              generalize (upd H9 F (.dK (mapK ((l ++ [(stp J x a, v ++ [a])]).map Prod.fst) fun _ => .bl true))) = H10 at *
              walk_at "go"
              refine ⟨sz1, fun T2 hT2 => ?_⟩
              have sT2 : Same H10 (upd H10 T2 (.tup [.int (a : Int)])) := same_laid hT2
              refine i_snocT (sT2 _ _ hbw10) upd_same (by rw [List.length_map]; omega) fun pp H11 s11 hp11 hfr => ?_
              walk_at "go"
              refine ⟨sz2, fun T3 hT3 => ?_⟩
              have sT3 : Same H11 (upd H11 T3 (.tup [.int (stp J x a : Int), .ref pp])) := same_laid hT3
              have s12 := (sT2.trans s11).trans sT3
              have hR12 := s12 _ _ hR10
              have hL12 := s12 _ _ hL10
              have hF12 := s12 _ _ hF10
              have hbw12 := s12 _ _ hbw10
              have hLr12 := hLr10.same s12
              have hLv12 := hLv10.same s12
              have hT12 : (upd H11 T3 (.tup [.int (stp J x a : Int), .ref pp])) T3 = some (.tup [.int (stp J x a : Int), .ref pp]) := upd_same
              have hp12 : (upd H11 T3 (.tup [.int (stp J x a : Int), .ref pp])) pp = some (.tup ((v ++ [a]).map vn)) := by
                rw [sT3 _ _ hp11, List.map_append] <;> rfl
              have s012 := s10.trans s12
              generalize (upd H11 T3 (.tup [.int (stp J x a : Int), .ref pp])) = H12 at *
              have hRn : ∀ vs, H12 R ≠ some (.tup vs) := by
                intro vs
                rw [hR12]
                intro z
                cases z
              have hrl : rs.length ≤ 4000 := by
                have := hLr12.length
                rw [List.length_drop] at this
                omega
              walk_at "go"
              refine i_append hR12 (by rw [List.length_map]; omega) ?_
              walk_at "go"
              rw [hnx, hnew]
              refine ⟨_, _, rs ++ [T3], rfl, Same.put s012 hRH, by rw [upd_ne hFR]; exact hF12, by rw [upd_same, List.map_append] <;> rfl, ?_, by rw [upd_ne hRL.symm]; exact hL12, hLv12.upd hRn, by rw [upd_ne (fun z => by rw [z, hR12] at hbw12; cases hbw12)]; exact hbw12, fun p hp => ?_⟩
              · rw [List.drop_append_of_le_length (by
                  obtain ⟨z2, hz2⟩ := addsW_pre (stp J) x v (gW m (stp J) 0 (i + t)) a
                  rw [← hl, hz2, List.length_append]
                  omega)]
                exact U.Paired.snoc (hLr12.upd hRn) ⟨pp, by rw [upd_ne (fun z => hRn _ (z ▸ hT12))]; exact hT12, by rw [upd_ne (fun z => hRn _ (z ▸ hp12))]; exact hp12⟩
              · rcases List.mem_append.mp hp with hp | hp
                · exact hno8 p hp
                · rw [List.mem_singleton.mp hp]
                  exact hg
        · obtain ⟨z7, z8, rs, rfl, s8, hF8, hR8, hLr8, hL8, hLv8, hbw8, hno8⟩ := hq
          rw [List.length_map, hwr] at hF8 hLr8 hno8
          rw [show i + (t + 1) = (i + t) + 1 from rfl, gW_at hit2]
          exact ⟨_, _, _, _, rs, rfl, s8, hF8, hR8, hLr8, hL8, hLv8, hno8, fun q hq => by
            rcases Nat.lt_or_ge q (i + t) with z | z
            · exact hok7 q z
            · have : q = i + t := by omega
              rw [this]
              exact htl⟩
      · obtain ⟨y5, y6, y7, y8, rs, rfl, s7, hF7, hR7, hLr7, hL7, hLv7, hno7, hok7⟩ := hq
        have hit : i + (as.map V.ref).length = (gW m (stp J) 0 i).length := by rw [List.length_map, hasl]; omega
        rw [hit] at hF7 hLr7 hno7 hok7
        walk_at "go"
        refine i_listOf (t := false) hR7 (fun l hl => ?_)
        walk_at "go"
        have sl : Same H7 (upd H7 l (.lst (rs.map V.ref))) := same_laid hl
        have hjl := gW_le hw (gW m (stp J) 0 i).length
        exact ⟨(gW m (stp J) 0 i).length, l, rs, _, _, _, _, _, by omega, hok7, by
          obtain ⟨zz, hzz⟩ := gW_mono (m := m) (st := stp J) (s := 0) i ((gW m (stp J) 0 i).length - i)
          rw [show i + ((gW m (stp J) 0 i).length - i) = (gW m (stp J) 0 i).length by omega] at hzz
          rw [hzz, List.length_append]
          omega, hno7, rfl, s7.trans sl, sl _ _ hF7, upd_same, hLr7.same sl⟩
    · walk_at "go"
      refine kN H5 s5 (gW_none (k := i) ⟨?_, fun q hq => ?_⟩ hno)
      · rw [← gW_len]
        omega
      · rw [← gW_len]
        exact hok q hq
end
abbrev s_spelled : Stmt := top 30
theorem sc_spelled : FnScope ["alphabet", "row", "k"] ["alphabet", "row"] (fnScope s_spelled) := ⟨rfl, rfl, rfl, by decide +kernel, rfl, by decide +kernel, by decide +kernel⟩
def sp_spelled : Sp := fun vs H Q _ => ∃ (al : List Nat) (p : Addr) (w : List Nat), vs = [.str (SX.S al), .ref p] ∧ AlOk al ∧ H p = some (.tup (w.map vn)) ∧ Ok al.length w ∧ w.length ≤ 4000 ∧ ∀ H', Same H H' → Q (.str (SX.S (spl al w))) H'
section
variable {P : Program} {w : World} {K : PySem.W.Frag} {mg : Str → Option Value} {base : Heap} {C : Addr} {r : Er}
set_option maxHeartbeats 4000000 in
theorem ok_spelled {f : Addr} {fd : FuncData} (F : Def K mg "spelled" s_spelled f fd) (T : Txt K mg C r) (b : Binds K fd ["alphabet", "row"] []) : Cal P w K mg base 1 "spelled" (sp_spelled) [] := by
  refine cal0 F b .nil sc_spelled (fun vs H Q E h => ?_) (fun cdv A outer s H vs Q E hr h => ?_)
  · obtain ⟨_, _, _, rfl, _⟩ := h
    rfl
  · obtain ⟨al, p, w, rfl, ha, hp, hw, hl, k⟩ := h
    refine ⟨_, (pss_one (ps_ret (joinK K rfl pe_str (pe_lc (own := [("k", 2)]) rfl sc_spelled.nd (seqK K rfl (pv 1)) (blkOk_by (by kernel_rfl)) (fun _ _ _ _ _ => (pg_name (i := 2) sc_spelled.nd rfl (by first | exact Or.inl rfl | exact Or.inr rfl))) (fun _ _ _ _ _ => pts_nil) (fun _ _ _ _ _ => (pe_ix (ixK K rfl) (pv 0) (pv 2) (fun _ _ => rfl))))))), ?_⟩
    have hpos := ha.pos
    have hle := ha.le
    have hla : (SX.S al).length = al.length := SX.S_len al
    walk_at "go"
    refine seq_lc (t := true) (xs := w.map vn) hp (fun D hD => ⟨fun i H' => Same H H' ∧ H' D = some (.lst (((w.take i).map fun x => al.getD x 0).map fun c => V.str ⟨#[c]⟩)), ⟨same_laid hD, upd_same⟩, fun i H' _ ⟨e, _⟩ => e _ _ hp, fun i v H' hv hq => ?_, fun H' hq => ?_⟩)
    · obtain ⟨s1, hD1⟩ := hq
      obtain ⟨x, hx, rfl⟩ := at_map hv
      have hxa := hw x (List.mem_of_getElem? hx)
      have hc : al[x]? = some (al.getD x 0) := by
        rw [List.getD_eq_getElem?_getD, List.getElem?_eq_getElem hxa]
        rfl
      walk_at "go"
      refine i_ixS (szl (by omega)) (S_at hc) ?_
      refine ⟨_, hD1, szlt (by rw [List.length_map, List.length_map, List.length_take]; omega), Same.put s1 hD, by rw [upd_same, take_at hx, List.map_append, List.map_append]; rfl⟩
    · obtain ⟨s1, hD1⟩ := hq
      rw [List.length_map, List.take_length] at hD1
      walk_at "go"
      have hj := join_one (w.map fun x => al.getD x 0)
      refine ⟨"", D, (w.map fun x => al.getD x 0).map fun c => (⟨#[c]⟩ : Str), rfl, rfl, .inl (SqL.of (by rw [hD1, List.map_map, List.map_map, List.map_map]; rfl)), ?_, ?_⟩
      · rw [join_sum, List.length_map, List.length_map, show (("" : Str).length) = 0 from rfl]
        omega
      · rw [hj]
        exact k H' s1
end
abbrev s_first_text : Stmt := top 41
theorem sc_first_text : FnScope ["reader", "other", "unlike", "rooms", "moves", "first", "second", "row", "a", "b"] ["reader", "other", "unlike"] (fnScope s_first_text) := ⟨rfl, rfl, rfl, by decide +kernel, rfl, by decide +kernel, by decide +kernel⟩
def sp_first_text (C : Addr) (r : Er) : Sp := fun vs H Q E => ∃ (Z : AS) (p q pw : Addr) (al : List Nat) (rs : Rws) (gd : List Nat) (bl : List Nat) (rs' : Rws) (gd' : List Nat) (W : List Nat), vs = [.ref p, .ref q, .ref pw] ∧ Rd C Z H p al rs gd ∧ Rd C Z H q bl rs' gd' ∧ H pw = some (.tup (W.map vn)) ∧ AlOk al ∧ WF al.length rs ∧ WF bl.length rs' ∧
  (al = bl → ∀ res H', LeastW al.length (fun u => jf gd gd' W (run rs 0 u, run rs' 0 u) = true) res → (∀ w, res = some w → w.length ≤ 4000) → Same H H' → Q (txtO al res) H') ∧
  (al ≠ bl → ∀ d H', Same H H' → H d = none → H' d = some (.xd [("what", .str "alphabet")]) → E (.ref r.Unlike) (some d) H')
section
variable {P : Program} {w : World} {K : PySem.W.Frag} {mg : Str → Option Value} {base : Heap} {C : Addr} {r : Er}
set_option maxHeartbeats 4000000 in
theorem ok_first_text {f : Addr} {fd : FuncData} (F : C8.Def K mg "first_text" s_first_text f fd) (T : Txt K mg C r) (b : Binds K fd ["reader", "other", "unlike"] []) (c_check_same_letters : CalX P w K mg base 4 "check_same_letters" (sp_check_same_letters C r)) (c_joint_table : Cal P w K mg base 1 "joint_table" sp_joint_table []) (c_good_marks : Cal P w K mg base 1 "good_marks" (sp_good_marks C) []) (c_parted_rooms : Cal P w K mg base 1 "parted_rooms" sp_parted_rooms []) (c_spelled : Cal P w K mg base 1 "spelled" sp_spelled []) : CalX P w K mg base 5 "first_text" (sp_first_text C r) := by
  refine calX F b sc_first_text (fun vs H Q E h => ?_) (fun cdv A outer s H vs Q E hr h => ?_)
  · obtain ⟨_, _, _, _, _, _, _, _, _, _, _, rfl, _⟩ := h
    rfl
  · obtain ⟨Z, p, q, pw, al, rs, gd, bl, rs', gd', W, rfl, hp, hq, hpw, ha, hw, hw', k1, k2⟩ := h
    refine ⟨_, (pss_cons (ps_expr (pe_cX c_check_same_letters hr (by decide) (takes_of rfl rfl rfl rfl) rfl (pa_cons (pv 0) (pa_cons (pv 1) pa_nil))))
        (pss_cons (PS_nox (ps_asg (pe_c c_joint_table hr (by decide) rfl (pa_cons (fldK K rfl (pv 0) rfl) (pa_cons (fldK K rfl (pv 1) rfl) pa_nil))) (pg_tup rfl (pgs_cons (pg_name (i := 3) sc_first_text.nd rfl (by first | exact Or.inl rfl | exact Or.inr rfl)) (pgs_cons (pg_name (i := 4) sc_first_text.nd rfl (by first | exact Or.inl rfl | exact Or.inr rfl)) pgs_nil)))))
        (pss_cons (PS_nox (ps_set (i := 5) sc_first_text.nd rfl (by first | exact Or.inl rfl | exact Or.inr rfl) (pe_c c_good_marks hr (by decide) rfl (pa_cons (pv 0) pa_nil))))
        (pss_cons (PS_nox (ps_set (i := 6) sc_first_text.nd rfl (by first | exact Or.inl rfl | exact Or.inr rfl) (pe_c c_good_marks hr (by decide) rfl (pa_cons (pv 1) pa_nil))))
        (pss_cons (PS_nox (ps_set (i := 7) sc_first_text.nd rfl (by first | exact Or.inl rfl | exact Or.inr rfl) (pe_c c_parted_rooms hr (by decide) rfl (pa_cons (pv 4) (pa_cons (pe_lc (own := [("a", 8), ("b", 9)]) rfl sc_first_text.nd (seqK K rfl (pv 3)) (blkOk_by (by kernel_rfl)) (fun _ _ _ _ _ => (pgTupK (n := 2) K rfl rfl (pgs_cons (pg_name (i := 8) sc_first_text.nd rfl (by first | exact Or.inl rfl | exact Or.inr rfl)) (pgs_cons (pg_name (i := 9) sc_first_text.nd rfl (by first | exact Or.inl rfl | exact Or.inr rfl)) pgs_nil)))) (fun _ _ _ _ _ => pts_nil) (fun _ _ _ _ _ => (pe_cmpR (inK K rfl) (pe_op op_add (pe_ifExp (pt_val (pe_ix (ixK K rfl) (pv 5) (pv 8) (fun _ _ => rfl))) pe_int pe_int) (pe_ifExp (pt_val (pe_ix (ixK K rfl) (pv 6) (pv 9) (fun _ _ => rfl))) pe_int pe_int)) (pv 2) rfl))) pa_nil)))))
        (pss_one (PS_nox (ps_ret (pe_ifExp (pt_cmpR op_isN1 (pv 7) pe_non (nomark _)) pe_non (pe_c c_spelled hr (by decide) rfl (pa_cons (fldK K rfl (pv 0) rfl) (pa_cons (pv 7) pa_nil)))))))))))), ?_⟩
    walk_at "go"
    refine ⟨Z, p, q, al, rs, gd, bl, rs', gd', rfl, hp, hq, fun hab => ?_, k2⟩
    subst hab
    have hp0 := hp
    have hq0 := hq
    obtain ⟨hpZ, dx, pm, pg, hp1, hp2, hp3⟩ := hp
    obtain ⟨hqZ, dy, qm, qg, hq1, hq2, hq3⟩ := hq
    have hle := hw.le
    have hle' := hw'.le
    walk_at "go"
    refine i_fldR hp1 T.cl T.nM (flds_mo al pm pg) ?_
    walk_at "go"
    refine i_fldR hq1 T.cl T.nM (flds_mo al qm qg) ?_
    walk_at "go"
    refine ⟨Z, pm, qm, rs, rs', al.length, rfl, hp2.rows, hq2.rows, hw, hw', fun k a O M bs H1 hdone s1 ha0 ha1 hO1 hPr1 hM1 => ?_⟩
    have hlt := j_lt hw.b hw'.b k
    have hplen : (jAt al.length rs rs' k).length ≤ rs.length * rs'.length := pairs_len (g_nd (nx := jn al.length rs rs') (s := (0, 0)) k) hlt
    have hnm : rs.length * rs'.length ≤ 3600 := Nat.mul_le_mul hle hle'
    walk_at "go"
    refine ⟨Z, p, al, rs, gd, rfl, hp0.same s1, by omega, fun F H2 s2 hF0 hF2 => ?_⟩
    walk_at "go"
    refine ⟨Z, q, al, rs', gd', rfl, hq0.same (s1.trans s2), by omega, fun G H3 s3 hG0 hG3 => ?_⟩
    walk_at "go"
    have s13 := s2.trans s3
    have hO3 := s13 _ _ hO1
    have hPr3 := hPr1.same s13
    have hF3 := s3 _ _ hF2
    have hpw3 := (s1.trans s13) _ _ hpw
    have hbl := hPr3.length
    refine seq_lc (t := false) hO3 (fun D hD => ⟨fun i H4 => ∃ c, c = bs.length ∧ i ≤ c ∧ H4 = upd H3 D (.lst (((jAt al.length rs rs' k).take i).map fun pr => .bl (jf gd gd' W pr))), ⟨_, rfl, Nat.zero_le _, rfl⟩, fun i H4 _ ⟨_, _, _, e⟩ => by rw [e, upd_ne (ne_of_none hO3 hD)]; exact hO3, fun i v H4 hv hz => ?_, fun H4 hz => ?_⟩)
    · obtain ⟨c, rfl, _, rfl⟩ := hz
      obtain ⟨b, hb, rfl⟩ := at_map hv
      obtain ⟨pr, hpr, hbt⟩ := Paired.at0 hPr3 hb
      obtain ⟨hpa, hpb⟩ := hlt pr (List.mem_of_getElem? hpr)
      have hib := (List.getElem?_eq_some_iff.mp hb).1
      have hbD : b ≠ D := ne_of_none hbt hD
      have fin : ∀ c1 c2 : Nat, c1 = (if pr.1 ∈ gd then 1 else 0) → c2 = (if pr.2 ∈ gd' then 2 else 0) → (∃ acc, (upd H3 D (.lst (((jAt al.length rs rs' k).take i).map fun pr => .bl (jf gd gd' W pr)))) D = some (.lst acc) ∧ acc.length < sizeLine ∧ ∃ c, c = bs.length ∧ i + 1 ≤ c ∧
          upd (upd H3 D (.lst (((jAt al.length rs rs' k).take i).map fun pr => .bl (jf gd gd' W pr)))) D (.lst (acc ++ [.bl (decide (c1 + c2 ∈ W))])) = upd H3 D (.lst (((jAt al.length rs rs' k).take (i + 1)).map fun pr => .bl (jf gd gd' W pr)))) := fun c1 c2 e1 e2 =>
        ⟨_, upd_same, szlt (by rw [List.length_map, List.length_take]; omega), _, rfl, hib, upd_lst (by rw [take_at hpr, List.map_append, e1, e2]; rfl)⟩
      walk_at "go"
      refine i_ixL (v := .bl (decide (pr.1 ∈ gd))) (by rw [upd_ne (ne_of_none hF3 hD)]; exact hF3) (atI_nat (by rw [List.getElem?_map, List.getElem?_range hpa]; rfl)) ?_
      have hW : ∀ n : Nat, rIn K false (.int (n : Int)) (.ref pw) (upd H3 D (.lst (((jAt al.length rs rs' k).take i).map fun pr => .bl (jf gd gd' W pr)))) = rIn K false (.int (n : Int)) (.ref pw) (upd H3 D (.lst (((jAt al.length rs rs' k).take i).map fun pr => .bl (jf gd gd' W pr)))) := fun n => rfl
      have hpwD : (upd H3 D (.lst (((jAt al.length rs rs' k).take i).map fun pr => .bl (jf gd gd' W pr)))) pw = some (sq true (W.map vn)) := by rw [upd_ne (ne_of_none hpw3 hD)]; exact hpw3
      have hGD : (upd H3 D (.lst (((jAt al.length rs rs' k).take i).map fun pr => .bl (jf gd gd' W pr)))) G = some (.lst ((List.range rs'.length).map fun r => .bl (decide (r ∈ gd')))) := by rw [upd_ne (ne_of_none hG3 hD)]; exact hG3
      walk_at "go"
      refine iteD (fun h1 => ?_) (fun h1 => ?_)
      · walk_at "go"
        refine i_ixL (v := .bl (decide (pr.2 ∈ gd'))) hGD (atI_nat (by rw [List.getElem?_map, List.getElem?_range hpb]; rfl)) ?_
        walk_at "go"
        refine iteD (fun h2 => ?_) (fun h2 => ?_)
        · walk_at "go"
          exact i_inI (n := 1 + 2) hpwD (fin 1 2 (by rw [if_pos h1]) (by rw [if_pos h2]))
        · walk_at "go"
          exact i_inI (n := 1 + 0) hpwD (fin 1 0 (by rw [if_pos h1]) (by rw [if_neg h2]))
      · walk_at "go"
        refine i_ixL (v := .bl (decide (pr.2 ∈ gd'))) hGD (atI_nat (by rw [List.getElem?_map, List.getElem?_range hpb]; rfl)) ?_
        walk_at "go"
        refine iteD (fun h2 => ?_) (fun h2 => ?_)
        · walk_at "go"
          exact i_inI (n := 0 + 2) hpwD (fin 0 2 (by rw [if_neg h1]) (by rw [if_pos h2]))
        · walk_at "go"
          exact i_inI (n := 0 + 0) hpwD (fin 0 0 (by rw [if_neg h1]) (by rw [if_neg h2]))
    · obtain ⟨c, rfl, _, rfl⟩ := hz
      walk_at "go"
      have s4 : Same H3 (upd H3 D (.lst (((jAt al.length rs rs' k).take (List.map V.ref bs).length).map fun pr => .bl (jf gd gd' W pr)))) := same_laid hD
      have s04 := (s1.trans s13).trans s4
      have hgl : (gRows (jn al.length rs rs') (jAt al.length rs rs' k)).length = (jAt al.length rs rs' k).length := gRows_len _ _
      have wJ : WFB al.length (gRows (jn al.length rs rs') (jAt al.length rs rs' k)) := gRows_wf hdone (by have := hdone.len; have h2 : (gAt (jn al.length rs rs') (0, 0) k).length ≤ rs.length * rs'.length := hplen; omega) hw.m3 (fun x _ => jn_len x)
      have lang : ∀ u, Ok al.length u → (decide (run (gRows (jn al.length rs rs') (jAt al.length rs rs' k)) 0 u ∈ jGood al.length rs rs' gd gd' W k) = true ↔ jf gd gd' W (run rs 0 u, run rs' 0 u) = true) := fun u hu => by
        rw [decide_eq_true_iff]
        exact jLang hdone _ hu
      refine ⟨Old H, M, D, gRows (jn al.length rs rs') (jAt al.length rs rs' k), fun r => decide (r ∈ jGood al.length rs rs' gd gd' W k), al.length, rfl, hM1.same (s13.trans s4), ?_, wJ, ha.pos, fun H5 s5 hL => ?_, fun w' p' H5 s5 hp5 hp6 hwl hL => ?_⟩
      · rw [upd_same, hgl]
        unfold jGood
        rw [gMarks, show (List.map V.ref bs).length = (jAt al.length rs rs' k).length by rw [List.length_map, hbl], List.take_length]
      · walk_at "go"
        exact k1 rfl none H5 (hL.congr lang) (fun w z => by cases z) (s04.trans s5)
      · walk_at "go"
        refine i_fldR ((s04.trans s5) _ _ hp1) T.cl T.nA (flds_al al pm pg) ?_
        walk_at "go"
        refine ⟨al, p', w', rfl, ha, hp6, ?_, hwl, fun H6 s6 => ?_⟩
        · rcases hL with ⟨z, _⟩ | ⟨w2, z, ok, _⟩
          · cases z
          · cases z
            exact ok
        · exact k1 rfl (some w') H6 (hL.congr lang) (fun w z => by cases z; exact hwl) ((s04.trans s5).trans s6)
end
abbrev s_parted : Stmt := top 42
theorem sc_parted : FnScope ["reader", "other"] ["reader", "other"] (fnScope s_parted) := ⟨rfl, rfl, rfl, by decide +kernel, rfl, by decide +kernel, by decide +kernel⟩
def sp_parted (C : Addr) (r : Er) : Sp := fun vs H Q E => ∃ (Z : AS) (p q : Addr) (al : List Nat) (rs : Rws) (gd : List Nat) (bl : List Nat) (rs' : Rws) (gd' : List Nat), vs = [.ref p, .ref q] ∧ Rd C Z H p al rs gd ∧ Rd C Z H q bl rs' gd' ∧ AlOk al ∧ WF al.length rs ∧ WF bl.length rs' ∧
  (al = bl → ∀ res H', LeastW al.length (fun u => jf gd gd' [1, 2] (run rs 0 u, run rs' 0 u) = true) res → (∀ w, res = some w → w.length ≤ 4000) → Same H H' → Q (txtO al res) H') ∧
  (al ≠ bl → ∀ d H', Same H H' → H d = none → H' d = some (.xd [("what", .str "alphabet")]) → E (.ref r.Unlike) (some d) H')
section
variable {P : Program} {w : World} {K : PySem.W.Frag} {mg : Str → Option Value} {base : Heap} {C : Addr} {r : Er}
set_option maxHeartbeats 4000000 in
theorem ok_parted {f : Addr} {fd : FuncData} (F : C8.Def K mg "parted" s_parted f fd) (T : Txt K mg C r) (b : Binds K fd ["reader", "other"] []) (c_first_text : CalX P w K mg base 5 "first_text" (sp_first_text C r)) : CalX P w K mg base 6 "parted" (sp_parted C r) := by
  refine calX F b sc_parted (fun vs H Q E h => ?_) (fun cdv A outer s H vs Q E hr h => ?_)
  · obtain ⟨_, _, _, _, _, _, _, _, _, rfl, _⟩ := h
    rfl
  · obtain ⟨Z, p, q, al, rs, gd, bl, rs', gd', rfl, hp, hq, ha, hw, hw', k1, k2⟩ := h
    refine ⟨_, (pss_one (ps_ret (pe_cX c_first_text hr (by decide) (takes_of rfl rfl rfl rfl) rfl (pa_cons (pv 0) (pa_cons (pv 1) (pa_cons (pe_tup (pa_cons pe_int (pa_cons pe_int pa_nil))) pa_nil)))))), ?_⟩
    walk_at "go"
    refine ⟨by decide, fun t ht => ?_⟩
    walk_at "go"
    have s1 : Same H (upd H t (.tup [.int 1, .int 2])) := same_laid ht
    exact ⟨Z, p, q, t, al, rs, gd, bl, rs', gd', [1, 2], rfl, hp.same s1, hq.same s1, upd_same, ha, hw, hw', fun e res H' hL hl s => k1 e res H' hL hl (s1.trans s), fun e d H' s hd hx => k2 e d H' (s1.trans s) (same_free s1 hd) hx⟩
end
abbrev s_outside : Stmt := top 43
theorem sc_outside : FnScope ["reader", "other"] ["reader", "other"] (fnScope s_outside) := ⟨rfl, rfl, rfl, by decide +kernel, rfl, by decide +kernel, by decide +kernel⟩
def sp_outside (C : Addr) (r : Er) : Sp := fun vs H Q E => ∃ (Z : AS) (p q : Addr) (al : List Nat) (rs : Rws) (gd : List Nat) (bl : List Nat) (rs' : Rws) (gd' : List Nat), vs = [.ref p, .ref q] ∧ Rd C Z H p al rs gd ∧ Rd C Z H q bl rs' gd' ∧ AlOk al ∧ WF al.length rs ∧ WF bl.length rs' ∧
  (al = bl → ∀ res H', LeastW al.length (fun u => jf gd gd' [1] (run rs 0 u, run rs' 0 u) = true) res → (∀ w, res = some w → w.length ≤ 4000) → Same H H' → Q (txtO al res) H') ∧
  (al ≠ bl → ∀ d H', Same H H' → H d = none → H' d = some (.xd [("what", .str "alphabet")]) → E (.ref r.Unlike) (some d) H')
section
variable {P : Program} {w : World} {K : PySem.W.Frag} {mg : Str → Option Value} {base : Heap} {C : Addr} {r : Er}
set_option maxHeartbeats 4000000 in
theorem ok_outside {f : Addr} {fd : FuncData} (F : C8.Def K mg "outside" s_outside f fd) (T : Txt K mg C r) (b : Binds K fd ["reader", "other"] []) (c_first_text : CalX P w K mg base 5 "first_text" (sp_first_text C r)) : CalX P w K mg base 6 "outside" (sp_outside C r) := by
  refine calX F b sc_outside (fun vs H Q E h => ?_) (fun cdv A outer s H vs Q E hr h => ?_)
  · obtain ⟨_, _, _, _, _, _, _, _, _, rfl, _⟩ := h
    rfl
  · obtain ⟨Z, p, q, al, rs, gd, bl, rs', gd', rfl, hp, hq, ha, hw, hw', k1, k2⟩ := h
    refine ⟨_, (pss_one (ps_ret (pe_cX c_first_text hr (by decide) (takes_of rfl rfl rfl rfl) rfl (pa_cons (pv 0) (pa_cons (pv 1) (pa_cons (pe_tup (pa_cons pe_int pa_nil)) pa_nil)))))), ?_⟩
    walk_at "go"
    refine ⟨by decide, fun t ht => ?_⟩
    walk_at "go"
    have s1 : Same H (upd H t (.tup [.int 1])) := same_laid ht
    exact ⟨Z, p, q, t, al, rs, gd, bl, rs', gd', [1], rfl, hp.same s1, hq.same s1, upd_same, ha, hw, hw', fun e res H' hL hl s => k1 e res H' hL hl (s1.trans s), fun e d H' s hd hx => k2 e d H' (s1.trans s) (same_free s1 hd) hx⟩
end
abbrev s_useful_rooms : Stmt := top 44
theorem sc_useful_rooms : FnScope ["reader", "rooms", "useful", "grown", "more", "room", "one"] ["reader"] (fnScope s_useful_rooms) := ⟨rfl, rfl, rfl, by decide +kernel, rfl, by decide +kernel, by decide +kernel⟩
def sp_useful_rooms (C : Addr) : Sp := fun vs H Q _ => ∃ (Z : AS) (p : Addr) (al : List Nat) (rs : Rws) (gd : List Nat), vs = [.ref p] ∧ Rd C Z H p al rs gd ∧ WF al.length rs ∧
  ∀ F H' us, Same H H' → H F = none → H' F = some (.dK (mapK us fun _ => .bl true)) → us.Nodup → (∀ r ∈ us, r < rs.length) → (∀ u, Ok al.length u → (run rs 0 u ∈ us ↔ Use al.length rs gd (run rs 0 u))) → Q (.ref F) H'
section
variable {P : Program} {w : World} {K : PySem.W.Frag} {mg : Str → Option Value} {base : Heap} {C : Addr} {r : Er}
set_option maxHeartbeats 4000000 in
theorem ok_useful_rooms {f : Addr} {fd : FuncData} (F : Def K mg "useful_rooms" s_useful_rooms f fd) (T : Txt K mg C r) (b : Binds K fd ["reader"] []) (c_reached_rooms : Cal P w K mg base 1 "reached_rooms" sp_reached_rooms []) : Cal P w K mg base 2 "useful_rooms" (sp_useful_rooms C) [] := by
  refine cal0 F b .nil sc_useful_rooms (fun vs H Q E h => ?_) (fun cdv A outer s H vs Q E hr h => ?_)
  · obtain ⟨_, _, _, _, _, rfl, _⟩ := h
    rfl
  · obtain ⟨Z, p, al, rs, gd, rfl, hp, hw, k⟩ := h
    refine ⟨_, (pss_cons (ps_set (i := 1) sc_useful_rooms.nd rfl (by first | exact Or.inl rfl | exact Or.inr rfl) (pe_c c_reached_rooms hr (by decide) rfl (pa_cons (fldK K rfl (pv 0) rfl) pa_nil)))
        (pss_cons (ps_set (i := 2) sc_useful_rooms.nd rfl (by first | exact Or.inl rfl | exact Or.inr rfl) (pe_dc (own := [("room", 5)]) rfl sc_useful_rooms.nd (seqK K rfl (pv 1)) (blkOk_by (by kernel_rfl)) (fun _ _ _ _ _ => (pg_name (i := 5) sc_useful_rooms.nd rfl (by first | exact Or.inl rfl | exact Or.inr rfl))) (fun _ _ _ _ _ => (pts_one (pt_cmpR (inK K rfl) (pv 5) (fldK K rfl (pv 0) rfl) rfl))) (fun _ _ _ _ _ => (pv 5)) (fun _ _ _ _ _ => pe_bl)))
        (pss_cons (ps_set (i := 3) sc_useful_rooms.nd rfl (by first | exact Or.inl rfl | exact Or.inr rfl) pe_bl)
        (pss_cons (ps_while PassesOwn.never (pt_val (pv 3)) (pss_cons (ps_setLc (i := 4) (own := [("room", 5)]) rfl sc_useful_rooms.nd rfl rfl (sw_true rfl rfl rfl (by decide +kernel)) (seqK K rfl (pv 1)) (blkOk_by (by kernel_rfl)) (fun _ _ _ _ _ => (pg_name (i := 5) sc_useful_rooms.nd rfl (by first | exact Or.inl rfl | exact Or.inr rfl))) (fun _ _ _ _ _ => (pts_one (PW.pt (pw_and (pt_cmp (pc_dnotin (hu_of hr) (pv 5) (pv 2))) (pw_and1 (pt_val (pe_callB (anyK K rfl rfl) (by rfl) T.b_any (by decide +kernel) (pa_cons (pe_lc (own := [("one", 6)]) rfl sc_useful_rooms.nd (seqK K rfl (pe_ix (ixK K rfl) (fldK K rfl (pv 0) rfl) (pv 5) (fun _ _ => rfl))) (blkOk_by (by kernel_rfl)) (fun _ _ _ _ _ => (pg_name (i := 6) sc_useful_rooms.nd rfl (by first | exact Or.inl rfl | exact Or.inr rfl))) (fun _ _ _ _ _ => pts_nil) (fun _ _ _ _ _ => (pe_cmp (pc_din (hu_of hr) (pv 6) (pv 2))))) pa_nil)))))))) (fun _ _ _ _ _ => (pv 5)))
        (pss_cons (ps_for PassesOwn.never rfl (seqK K rfl (pv 4)) (pg_name (i := 5) sc_useful_rooms.nd rfl (by first | exact Or.inl rfl | exact Or.inr rfl))
        (pss_one (ps_dput (hu_of hr) (pv 2) (pv 5) pe_bl rfl)))
        (pss_one (ps_set (i := 3) sc_useful_rooms.nd rfl (by first | exact Or.inl rfl | exact Or.inr rfl) (pe_cmpR op_gt (pe_callB (lenK K rfl) (by rfl) T.b_len (by decide +kernel) (pa_cons (pv 4) pa_nil)) pe_int (nomark _)))))))
        (pss_one (ps_ret (pv 2))))))), ?_⟩
    have hle := hw.le
    obtain ⟨hpZ, dx, pm, pg, hp1, hp2, hp3⟩ := id hp
    obtain ⟨vs, hv, hvl⟩ := hp2.len
    obtain ⟨_, hg1⟩ := id hp3
    walk_at "go"
    refine i_fldR hp1 T.cl T.nM (flds_mo al pm pg) ?_
    walk_at "go"
    refine ⟨Z, pm, rs, al.length, rfl, hp2.rows, hw.b, fun kk a H1 hkk ha s1 ha1 => ?_⟩
    have hcl := scan_cl hw.b hkk
    have hond := scan_nd rs kk
    have h0o : 0 ∈ scanAt rs kk := List.mem_of_getElem? (scan0 rs kk)
    generalize scanAt rs kk = o at *
    have hol : o.length ≤ 60 := Nat.le_trans (nodup_le hond hcl.lt) hle
    walk_at "go"
    refine seq_dc (t := false) (xs := o.map vn) ha1 (fun F hF => ⟨fun i H2 => H2 = upd H1 F (.dK (mapK ((o.take i).filter fun r => decide (r ∈ gd)) fun _ => .bl true)), rfl, fun i H2 _ e => by rw [e, upd_ne (ne_of_none ha1 hF)]; exact ha1, fun i v H2 hv2 e => ?_, fun H2 e => ?_⟩)
    · subst e
      obtain ⟨r, hr, rfl⟩ := at_map hv2
      have hi := (List.getElem?_eq_some_iff.mp hr).1
      have htk : o.take (i + 1) = o.take i ++ [r] := take_at hr
      have hnin : r ∉ (o.take i).filter fun r => decide (r ∈ gd) := fun z => by
        have h1 := hond.sublist (List.take_sublist (i + 1) o)
        rw [htk, List.nodup_append] at h1
        exact h1.2.2 r (List.mem_filter.mp z).1 r (List.mem_singleton.mpr rfl) rfl
      walk_at "go"
      refine i_fldR (by rw [upd_ne (ne_of_none (s1 _ _ hp1) hF)]; exact s1 _ _ hp1) T.cl T.nG (flds_go al pm pg) ?_
      refine i_inI (t := true) (by rw [upd_ne (ne_of_none (s1 _ _ hg1) hF)]; exact s1 _ _ hg1) ?_
      walk_at "go"
      refine iteB (fun hb => ?_) (fun hb => ?_)
      · walk_at "go"
        refine ⟨_, Sum.inl (r : Int), rfl, upd_same, szlt (by
          rw [mapK_len]
          have := List.length_filter_le (fun r => decide (r ∈ gd)) (o.take i)
          rw [List.length_take] at this
          omega), ?_⟩
        rw [upd_upd, putK_mapK hnin rfl]
        show upd H1 F (.dK (mapK (((o.take i).filter fun r => decide (r ∈ gd)) ++ [r]) fun _ => .bl true)) = upd H1 F (.dK (mapK ((o.take (i + 1)).filter fun r => decide (r ∈ gd)) fun _ => .bl true))
        rw [htk, List.filter_append, filt1, if_pos hb]
      · show upd H1 F (.dK (mapK ((o.take i).filter fun r => decide (r ∈ gd)) fun _ => .bl true)) = upd H1 F (.dK (mapK ((o.take (i + 1)).filter fun r => decide (r ∈ gd)) fun _ => .bl true))
        rw [htk, List.filter_append, filt1, if_neg (by rw [hb]; decide), List.append_nil]
    subst e
    rw [List.length_map, List.take_length]
    have hF1 : (upd H1 F (.dK (mapK (o.filter fun r => decide (r ∈ gd)) fun _ => .bl true))) F = some (.dK (mapK (useU rs gd o 0) fun _ => .bl true)) := upd_same
    have s2 : Same H1 (upd H1 F (.dK (mapK (o.filter fun r => decide (r ∈ gd)) fun _ => .bl true))) := same_laid hF
    generalize upd H1 F (.dK (mapK (o.filter fun r => decide (r ∈ gd)) fun _ => .bl true)) = H2 at *
    have hFH : H F = none := same_free s1 hF
    walk_at "go"
    refine i_while 62 (fun k σ H3 => ∃ (b : Bool) (x4 x5 : Option V), σ = [some (.ref p), some (.ref a), some (.ref F), some (.bl b), x4, x5, none] ∧ Same H1 H3 ∧ H3 F = some (.dK (mapK (useU rs gd o k) fun _ => .bl true)) ∧ (b = true → ∀ j, j < k → moreU rs o (useU rs gd o j) ≠ []) ∧ (b = false → moreU rs o (useU rs gd o k) = []))
      ⟨true, none, none, rfl, s2, hF1, fun _ j h => absurd h (Nat.not_lt_zero j), fun h => by cases h⟩ (fun k3 σ H3 hz => ?_)
    obtain ⟨b, x4, x5, rfl, s3, hF3, hb1, hb2⟩ := hz
    have hund := use_nd (rs := rs) (gd := gd) hond k3
    have hul : (useU rs gd o k3).length ≤ 60 := Nat.le_trans (nodup_le hund fun r hr => hcl.lt r (use_o k3 r hr)) hle
    walk_at "go"
    refine iteB (fun hb => ?_) (fun hb => ?_)
    · have hk60 := use_len k3 (hb1 hb)
      refine whT (by omega) ?_
      walk_at "go"
      have hm3 := s3 _ _ ha1
      refine seq_lc (t := false) (xs := o.map vn) hm3 (fun D hD => ⟨fun i H4 => Same H3 H4 ∧ H4 D = some (.lst (((o.take i).filter fun r => !decide (r ∈ useU rs gd o k3) && (row rs r).any fun t => decide (t ∈ useU rs gd o k3)).map vn)), ⟨same_laid hD, upd_same⟩, fun i H4 _ ⟨e, _⟩ => e _ _ hm3, fun i v H4 hv2 hq => ?_, fun H4 hq => ?_⟩)
      · obtain ⟨s4, hD4⟩ := hq
        obtain ⟨r, hr, rfl⟩ := at_map hv2
        have hrl := hcl.lt r (List.mem_of_getElem? hr)
        have htk : o.take (i + 1) = o.take i ++ [r] := take_at hr
        have hF4 := s4 _ _ hF3
        have hfl := List.length_filter_le (fun r => !decide (r ∈ useU rs gd o k3) && (row rs r).any fun t => decide (t ∈ useU rs gd o k3)) (o.take i)
        rw [List.length_take] at hfl
        obtain ⟨tr, vr, ar, hr1, hr2, hr3, hr4, tr5, hr6⟩ := hp2.rows.at hrl
        have hwr := hw.b.row_len hrl
        have hm3 := hw.m3
        have hp4 := s4 _ _ (s3 _ _ (s1 _ _ hp1))
        have hr14 := s4 _ _ (s3 _ _ (s1 _ _ hr1))
        have hr64 := s4 _ _ (s3 _ _ (s1 _ _ hr6))
        have skip : ∀ H5, Same H4 H5 → (!decide (r ∈ useU rs gd o k3) && (row rs r).any fun t => decide (t ∈ useU rs gd o k3)) = false → Same H3 H5 ∧ H5 D = some (.lst (((o.take (i + 1)).filter fun r => !decide (r ∈ useU rs gd o k3) && (row rs r).any fun t => decide (t ∈ useU rs gd o k3)).map vn)) := fun H5 s5 e => ⟨s4.trans s5, by
          rw [s5 _ _ hD4, htk, List.filter_append, filt1, if_neg (by rw [e]; decide), List.append_nil]⟩
        walk_at "go"
        refine r_dnotin hF4 ?_
        walk_at "go"
        by_cases hin : r ∈ useU rs gd o k3
        · rw [valV_mapK_in hin]
          refine iteNT ?_
          walk_at "go"
          exact skip H4 (Same.refl _) (by rw [decide_eq_true hin]; rfl)
        · rw [valV_mapK_no hin]
          refine iteNF ?_
          walk_at "go"
          refine i_fldR hp4 T.cl T.nM (flds_mo al pm pg) ?_
          walk_at "go"
          refine i_ixQ hr14 hr3 ?_
          refine seq_lc (t := tr5) (xs := (row rs r).map vn) hr64 (fun E hE => ⟨fun q H5 => Same H4 H5 ∧ H5 E = some (.lst (((row rs r).take q).map fun t => .bl (decide (t ∈ useU rs gd o k3)))), ⟨same_laid hE, upd_same⟩, fun q H5 _ ⟨e, _⟩ => e _ _ hr64, fun q v H5 hvq hz => ?_, fun H5 hz => ?_⟩)
          · obtain ⟨s5, hE5⟩ := hz
            obtain ⟨y, hy, rfl⟩ := at_map hvq
            walk_at "go"
            refine r_din (s5 _ _ hF4) ?_
            have e : (valV (mapK (useU rs gd o k3) fun _ => V.bl true) (Sum.inl (y : Int))).isSome = decide (y ∈ useU rs gd o k3) := by
              by_cases h : y ∈ useU rs gd o k3
              · rw [valV_mapK_in h, decide_eq_true h] <;> rfl
              · rw [valV_mapK_no h, decide_eq_false h] <;> rfl
            rw [e]
            exact ⟨_, hE5, szlt (by rw [List.length_map, List.length_take]; omega), Same.put s5 hE, by rw [upd_same, take_at hy, List.map_append]; rfl⟩
          · obtain ⟨s5, hE5⟩ := hz
            rw [List.length_map, List.take_length] at hE5
            walk_at "go"
            refine i_any (bs := (row rs r).map fun t => decide (t ∈ useU rs gd o k3)) (r := (row rs r).any fun t => decide (t ∈ useU rs gd o k3)) (by rw [hE5, List.map_map]; rfl) (by rw [List.any_map]; rfl) ?_
            walk_at "go"
            refine iteB (fun hb3 => ?_) (fun hb3 => ?_)
            · walk_at "go"
              refine ⟨_, s5 _ _ hD4, szlt (by rw [List.length_map]; omega), Same.put (s4.trans s5) hD, ?_⟩
              rw [upd_same, htk, List.filter_append, filt1, if_pos (by rw [decide_eq_false hin, hb3]; rfl), List.map_append] <;> rfl
            · exact skip H5 s5 (by rw [hb3, Bool.and_false])
      · obtain ⟨s4, hD4⟩ := hq
        rw [List.length_map, List.take_length] at hD4
        have hD4 : H4 D = some (.lst ((moreU rs o (useU rs gd o k3)).map vn)) := hD4
        have hmnd : (moreU rs o (useU rs gd o k3)).Nodup := hond.sublist List.filter_sublist
        have hmdis : ∀ r ∈ moreU rs o (useU rs gd o k3), r ∉ useU rs gd o k3 := fun r hr => (mem_moreU.mp hr).2.1
        have hmlen : (moreU rs o (useU rs gd o k3)).length ≤ 60 := Nat.le_trans (List.length_filter_le _ _) hol
        have hu1 : useU rs gd o (k3 + 1) = useU rs gd o k3 ++ moreU rs o (useU rs gd o k3) := rfl
        have hDF : D ≠ F := fun z => by
          have := s4 _ _ hF3
          rw [← z, hD4] at this
          cases this
        have hF4 := s4 _ _ hF3
        have hFn : H1 F = none := hF
        generalize hmo : moreU rs o (useU rs gd o k3) = mo at *
        walk_at "go"
        refine seq_for (t := false) (xs := mo.map vn) hD4 (fun i σ H5 => ∃ x5, σ = [some (.ref p), some (.ref a), some (.ref F), some (.bl b), some (.ref D), x5, none] ∧ Same H1 H5 ∧ H5 D = some (.lst (mo.map vn)) ∧ H5 F = some (.dK (mapK (useU rs gd o k3 ++ mo.take i) fun _ => .bl true))) ⟨_, rfl, s3.trans s4, hD4, by rw [List.take_zero, List.append_nil]; exact hF4⟩ (fun i σ H5 _ ⟨_, _, _, h, _⟩ => h) (fun i v σ H5 hv2 hq => ?_) (fun σ H5 hq => ?_)
        · obtain ⟨y5, rfl, s5, hD5, hF5⟩ := hq
          obtain ⟨r, hr, rfl⟩ := at_map hv2
          have htk : mo.take (i + 1) = mo.take i ++ [r] := take_at hr
          have hn : r ∉ useU rs gd o k3 ++ mo.take i := fun z => by
            rcases List.mem_append.mp z with z | z
            · exact hmdis r (List.mem_of_getElem? hr) z
            · have h1 := hmnd.sublist (List.take_sublist (i + 1) mo)
              rw [htk, List.nodup_append] at h1
              exact h1.2.2 r z r (List.mem_singleton.mpr rfl) rfl
          walk_at "go"
          refine r_dput hF5 (by rw [mapK_len, List.length_append, List.length_take]; omega) ?_
          rw [putK_mapK hn rfl]
          exact ⟨_, rfl, Same.put s5 hFn, by rw [upd_ne hDF]; exact hD5, by rw [upd_same, htk, List.append_assoc]⟩
        · obtain ⟨y5, rfl, s5, hD5, hF5⟩ := hq
          rw [List.length_map, List.take_length] at hF5
          walk_at "go"
          rw [List.length_map]
          refine ⟨_, _, _, rfl, s5, by rw [hu1]; exact hF5, fun hg j hj => ?_, fun hg => ?_⟩
          · rcases Nat.lt_or_ge j k3 with z | z
            · exact hb1 hb j z
            · have e : j = k3 := by omega
              subst e
              rw [hmo]
              intro z2
              rw [z2] at hg
              cases hg
          · have hm0 : mo = [] := by
              cases mo with
              | nil => rfl
              | cons x l =>
                exfalso
                have : ((x :: l).length : Int) > 0 := by rw [List.length_cons]; omega
                rw [decide_eq_true this] at hg
                cases hg
            rw [hu1, hm0, List.append_nil, hmo, hm0]
    · walk_at "go"
      refine k F H3 (useU rs gd o k3) (s1.trans s3) hFH hF3 hund (fun r hr => hcl.lt r (use_o k3 r hr)) fun v hv => ⟨fun h => use_sound hw.b hcl.lt k3 _ h, fun ⟨x, hx, hg⟩ => use_full hw.b hcl.lt (fun r hr a ha => hcl.stp hw.b hr ha) (hb2 hb) x _ ?_ hx hg⟩
      have : ∀ (v : List Nat) (r : Nat), r ∈ o → Ok al.length v → run rs r v ∈ o := fun v => by
        induction v with
        | nil => exact fun r h _ => h
        | cons a v ih => exact fun r h hv => ih _ (hcl.stp hw.b h (hv a (List.mem_cons_self ..))) fun b hb => hv b (List.mem_cons_of_mem _ hb)
      exact this v 0 h0o hv
end
abbrev s_longest_of : Stmt := top 45
theorem sc_longest_of : FnScope ["reader", "useful", "level", "longest", "length", "room", "one"] ["reader"] (fnScope s_longest_of) := ⟨rfl, rfl, rfl, by decide +kernel, rfl, by decide +kernel, by decide +kernel⟩
def resV : Option Int → V
  | none => .non
  | some L => .int L
def sp_longest_of (C : Addr) : Sp := fun vs H Q _ => ∃ (Z : AS) (p : Addr) (al : List Nat) (rs : Rws) (gd : List Nat), vs = [.ref p] ∧ Rd C Z H p al rs gd ∧ WF al.length rs ∧ ∀ res H', Same H H' → LongR al.length rs gd res → Q (resV res) H'
section
variable {P : Program} {w : World} {K : PySem.W.Frag} {mg : Str → Option Value} {base : Heap} {C : Addr} {r : Er}
set_option maxHeartbeats 4000000 in
theorem ok_longest_of {f : Addr} {fd : FuncData} (F : Def K mg "longest_of" s_longest_of f fd) (T : Txt K mg C r) (b : Binds K fd ["reader"] []) (c_useful_rooms : Cal P w K mg base 2 "useful_rooms" (sp_useful_rooms C) []) : Cal P w K mg base 3 "longest_of" (sp_longest_of C) [] := by
  refine cal0 F b .nil sc_longest_of (fun vs H Q E h => ?_) (fun cdv A outer s H vs Q E hr h => ?_)
  · obtain ⟨_, _, _, _, _, rfl, _⟩ := h
    rfl
  · obtain ⟨Z, p, al, rs, gd, rfl, hp, hw, k⟩ := h
    refine ⟨_, (pss_cons (ps_set (i := 1) sc_longest_of.nd rfl (by first | exact Or.inl rfl | exact Or.inr rfl) (pe_c c_useful_rooms hr (by decide) rfl (pa_cons (pv 0) pa_nil)))
        (C8.pss_cut (ps_set (i := 2) sc_longest_of.nd rfl (by first | exact Or.inl rfl | exact Or.inr rfl) (pe_ifExp (pt_cmp (pc_din (hu_of hr) pe_int (pv 1))) (pe_lst (pa_cons pe_int pa_nil)) (pe_lst pa_nil)))
        (pss_cons (ps_set (i := 3) sc_longest_of.nd rfl (by first | exact Or.inl rfl | exact Or.inr rfl) (pe_un un_neg pe_int))
        (pss_cons (ps_for PassesOwn.never rfl (pi_range1 (by rfl) T.b_range (pa_cons (pe_op op_add (pe_callB (lenK K rfl) (by rfl) T.b_len (by decide +kernel) (pa_cons (fldK K rfl (pv 0) rfl) pa_nil)) pe_int) pa_nil)) (pg_name (i := 4) sc_longest_of.nd rfl (by first | exact Or.inl rfl | exact Or.inr rfl))
        (pss_cons (ps_if (pt_cmpR op_eq (pe_callB (lenK K rfl) (by rfl) T.b_len (by decide +kernel) (pa_cons (pv 2) pa_nil)) pe_int (nomark _)) (pss_one (ps_ret (pv 3))) pss_nil)
        (C8.pss_cut (ps_if (pt_val (pe_callB (anyK K rfl rfl) (by rfl) T.b_any (by decide +kernel) (pa_cons (pe_lc (own := [("room", 5)]) rfl sc_longest_of.nd (seqK K rfl (pv 2)) (blkOk_by (by kernel_rfl)) (fun _ _ _ _ _ => (pg_name (i := 5) sc_longest_of.nd rfl (by first | exact Or.inl rfl | exact Or.inr rfl))) (fun _ _ _ _ _ => pts_nil) (fun _ _ _ _ _ => (pe_cmpR (inK K rfl) (pv 5) (fldK K rfl (pv 0) rfl) rfl))) pa_nil))) (pss_one (ps_set (i := 3) sc_longest_of.nd rfl (by first | exact Or.inl rfl | exact Or.inr rfl) (pv 4))) pss_nil)
        (pss_one (ps_set (i := 2) sc_longest_of.nd rfl (by first | exact Or.inl rfl | exact Or.inr rfl) (sortSetK K rfl (by rfl) T.b_sorted (by rfl) T.b_set (pe_lc2 (own := [("room", 5), ("one", 6)]) (vs1 := [6]) rfl sc_longest_of.nd (seqK K rfl (pv 2)) (blkOk_by (by kernel_rfl)) (by decide) (fun _ _ _ _ _ => (pg_name (i := 5) sc_longest_of.nd rfl (by first | exact Or.inl rfl | exact Or.inr rfl))) (fun _ _ _ _ _ => pts_nil) (fun _ _ _ _ _ => (seqK K rfl (pe_ix (ixK K rfl) (fldK K rfl (pv 0) rfl) (pv 5) (fun _ _ => rfl)))) (fun _ _ _ _ _ => (pg_name (i := 6) sc_longest_of.nd rfl (by first | exact Or.inl rfl | exact Or.inr rfl))) (fun _ _ _ _ _ => (pts_one (pt_cmp (pc_din (hu_of hr) (pv 6) (pv 1))))) (fun _ _ _ _ _ => (pv 6)))))))))
        (pss_one (ps_ret pe_non)))))), ?_⟩
    have hle := hw.le
    have hpos := hw.pos
    have hm3 := hw.m3
    walk_at "go"
    refine ⟨Z, p, al, rs, gd, rfl, hp, hw, fun F H1 us s1 hF hF1 hnd hlt hus => ?_⟩
    obtain ⟨hpZ, dx, pm, pg, hp1, hp2, hp3⟩ := hp.same s1
    obtain ⟨vs, hv, hvl⟩ := hp2.len
    obtain ⟨_, hg1⟩ := id hp3
    show C8.tCut _ _ _ _ _
    refine i_cut (fun σ H2 => ∃ (Lv : Addr) (lv : List Nat), σ = [some (.ref p), some (.ref F), some (.ref Lv), none, none, none, none] ∧ Same H1 H2 ∧ H2 Lv = some (.lst (lv.map vn)) ∧ LvL al.length rs gd 0 lv) ?_ (fun σ H2 hq => ?_)
    · walk_at "go"
      refine r_din hF1 ?_
      walk_at "go"
      have h0 := hus [] (fun a h => by simp at h)
      by_cases hin : 0 ∈ us
      · rw [show (valV (mapK us fun _ => V.bl true) (Sum.inl 0)) = some (.bl true) from valV_mapK_in (n := 0) hin]
        refine iteT ?_
        walk_at "go"
        refine ⟨sz1, fun Lv hLv => ?_⟩
        walk_at "go"
        exact ⟨Lv, [0], rfl, same_laid hLv, upd_same, lvl0_t (h0.mp hin)⟩
      · rw [show (valV (mapK us fun _ => V.bl true) (Sum.inl 0)) = none from valV_mapK_no (n := 0) hin]
        refine iteF ?_
        walk_at "go"
        refine ⟨by decide, fun Lv hLv => ?_⟩
        walk_at "go"
        exact ⟨Lv, [], rfl, same_laid hLv, upd_same, lvl0_f fun z => hin (h0.mpr z)⟩
    obtain ⟨Lv0, lv0, rfl, s2, hL0, hlv0⟩ := hq
    walk_at "go"
    refine i_fldR (s2 _ _ hp1) T.cl T.nM (flds_mo al pm pg) ?_
    walk_at "go"
    refine i_lenQ (t := true) (s2 _ _ hv) ?_
    rw [hvl]
    walk_at "go"
    rw [show ((rs.length : Int) + 1) = ((rs.length + 1 : Nat) : Int) by omega]
    refine ⟨by omega, by omega, ?_⟩
    rw [Int.toNat_natCast]
    refine rng0_for (n := rs.length + 1) (fun l σ H3 => ∃ (Lv : Addr) (lv : List Nat) (L : Int) (x4 : Option V), σ = [some (.ref p), some (.ref F), some (.ref Lv), some (.int L), x4, none, none] ∧ Same H1 H3 ∧ H3 Lv = some (.lst (lv.map vn)) ∧ LvL al.length rs gd l lv ∧ LgS al.length rs gd l L ∧ (0 < l → ∃ v, Ok al.length v ∧ v.length + 1 = l ∧ Use al.length rs gd (run rs 0 v)))
      ⟨Lv0, lv0, -1, none, rfl, s2, hL0, hlv0, lgs0, fun h => absurd h (Nat.lt_irrefl 0)⟩ (fun l σ H3 hl hq => ?_) (fun σ H3 hq => ?_)
    · obtain ⟨Lv, lv, L, x4, rfl, s3, hL3, hlv, hlg, _⟩ := hq
      have hlvn := lvl_len hw.b hlv
      have hlvlt := lvl_lt hw.b hlv
      walk_at "go"
      rw [List.length_map]
      refine iteD (fun hx => ?_) (fun hx => ?_)
      · have e : lv = [] := by
          cases lv with
          | nil => rfl
          | cons a b =>
            exfalso
            rw [List.length_cons] at hx
            omega
        subst e
        walk_at "go"
        refine k (some L) H3 (s1.trans s3) ⟨hlg.1, by have := hlg.2.1; omega, fun v ov pv => hlg.2.2.1 v ov pv (lvl_nil hlv ov pv), hlg.2.2.2⟩
      · walk_at "go"
        show C8.tCut _ _ _ _ _
        refine i_cut (fun σ H4 => ∃ (L' : Int), σ = [some (.ref p), some (.ref F), some (.ref Lv), some (.int L'), some (vn l), none, none] ∧ Same H3 H4 ∧ LgS al.length rs gd (l + 1) L') ?_ (fun σ H4 hq => ?_)
        · walk_at "go"
          refine seq_lc (t := false) (xs := lv.map vn) hL3 (fun E hE => ⟨fun q H5 => Same H3 H5 ∧ H5 E = some (.lst ((lv.take q).map fun r => .bl (decide (r ∈ gd)))), ⟨same_laid hE, upd_same⟩, fun q H5 _ ⟨e, _⟩ => e _ _ hL3, fun q v H5 hvq hz => ?_, fun H5 hz => ?_⟩)
          · obtain ⟨s5, hE5⟩ := hz
            obtain ⟨r, hr, rfl⟩ := at_map hvq
            walk_at "go"
            refine i_fldR (s5 _ _ (s3 _ _ hp1)) T.cl T.nG (flds_go al pm pg) ?_
            refine i_inI (t := true) (s5 _ _ (s3 _ _ hg1)) ?_
            exact ⟨_, hE5, szlt (by rw [List.length_map, List.length_take]; omega), Same.put s5 hE, by rw [upd_same, take_at hr, List.map_append]; rfl⟩
          · obtain ⟨s5, hE5⟩ := hz
            rw [List.length_map, List.take_length] at hE5
            walk_at "go"
            refine i_any (bs := lv.map fun r => decide (r ∈ gd)) (r := lv.any fun r => decide (r ∈ gd)) (by rw [hE5, List.map_map]; rfl) (by rw [List.any_map]; rfl) ?_
            walk_at "go"
            refine iteB (fun hb3 => ?_) (fun hb3 => ?_)
            · obtain ⟨r, hr, hg⟩ := List.any_eq_true.mp hb3
              walk_at "go"
              exact ⟨_, rfl, s5, lgs_hit hlv hlg hr (decide_eq_true_iff.mp hg)⟩
            · walk_at "go"
              exact ⟨_, rfl, s5, lgs_miss hlv hlg fun r hr hg => by
                have : (lv.any fun r => decide (r ∈ gd)) = true := List.any_eq_true.mpr ⟨r, hr, decide_eq_true hg⟩
                rw [hb3] at this
                cases this⟩
        · obtain ⟨L', rfl, s4, hlg'⟩ := hq
          have hL4 := s4 _ _ hL3
          have s14 := s3.trans s4
          have hp4 := s14 _ _ hp1
          have hF4 := s14 _ _ hF1
          have hflen : ∀ q, ((lv.take q).flatMap fun r => (row rs r).filter fun t => decide (t ∈ us)).length ≤ 180 := fun q => by
            have h1 : ∀ l : List Nat, (∀ r ∈ l, r < rs.length) → (l.flatMap fun r => (row rs r).filter fun t => decide (t ∈ us)).length ≤ 3 * l.length := fun l => by
              induction l with
              | nil => exact fun _ => Nat.zero_le _
              | cons x l ih =>
                intro hx
                have h2 := ih fun r hr => hx r (List.mem_cons_of_mem _ hr)
                have h3 := List.length_filter_le (fun t => decide (t ∈ us)) (row rs x)
                rw [hw.b.row_len (hx x (List.mem_cons_self ..))] at h3
                rw [List.flatMap_cons, List.length_append, List.length_cons]
                omega
            have h4 := h1 (lv.take q) fun r hr => hlvlt r (List.mem_of_mem_take hr)
            rw [List.length_take] at h4
            omega
          walk_at "go"
          refine seq_lc2 (t := false) (xs := lv.map vn) hL4 (fun D hD => ⟨fun q H5 => Same H4 H5 ∧ H5 D = some (.lst (((lv.take q).flatMap fun r => (row rs r).filter fun t => decide (t ∈ us)).map vn)), ⟨same_laid hD, upd_same⟩, fun q H5 _ ⟨e, _⟩ => e _ _ hL4, fun q v H5 hvq hz => ?_, fun H5 hz => ?_⟩)
          · obtain ⟨s5, hD5⟩ := hz
            obtain ⟨r, hr, rfl⟩ := at_map hvq
            have hrl := hlvlt r (List.mem_of_getElem? hr)
            obtain ⟨tr, vr, ar, hr1, hr2, hr3, hr4, tr5, hr6⟩ := hp2.rows.at hrl
            have hwr := hw.b.row_len hrl
            walk_at "go"
            have s15 := s14.trans s5
            refine i_fldR (s5 _ _ hp4) T.cl T.nM (flds_mo al pm pg) ?_
            walk_at "go"
            refine i_ixQ (s15 _ _ hr1) hr3 ?_
            refine seq_in2 (t := tr5) (xs := (row rs r).map vn) (s15 _ _ hr6) (fun q2 H6 => Same H4 H6 ∧ H6 D = some (.lst (((lv.take q).flatMap (fun r => (row rs r).filter fun t => decide (t ∈ us)) ++ ((row rs r).take q2).filter fun t => decide (t ∈ us)).map vn))) ⟨s5, by rw [hD5, List.take_zero, List.filter_nil, List.append_nil]⟩ (fun q2 H6 _ hz2 => (s14.trans hz2.1) _ _ hr6) (fun q2 v2 H6 hvq2 hz2 => ?_) (fun H6 hz2 => ?_)
            · obtain ⟨s6, hD6⟩ := hz2
              obtain ⟨y, hy, rfl⟩ := at_map hvq2
              walk_at "go"
              refine r_din (s6 _ _ hF4) ?_
              have e : (valV (mapK us fun _ => V.bl true) (Sum.inl (y : Int))).isSome = decide (y ∈ us) := by
                by_cases h : y ∈ us
                · rw [valV_mapK_in h, decide_eq_true h] <;> rfl
                · rw [valV_mapK_no h, decide_eq_false h] <;> rfl
              rw [e]
              walk_at "go"
              refine iteB (fun hb => ?_) (fun hb => ?_)
              · walk_at "go"
                refine ⟨_, hD6, szlt (by
                  rw [List.length_map, List.length_append]
                  have h1 := hflen q
                  have h2 := List.length_filter_le (fun t => decide (t ∈ us)) ((row rs r).take q2)
                  rw [List.length_take] at h2
                  omega), Same.put s6 hD, ?_⟩
                rw [upd_same, take_at hy, List.filter_append, filt1, if_pos hb, ← List.append_assoc]
                simp only [List.map_append, List.map_cons, List.map_nil]
              · exact ⟨s6, by rw [hD6, take_at hy, List.filter_append, filt1, if_neg (by rw [hb]; decide), List.append_nil]⟩
            · obtain ⟨s6, hD6⟩ := hz2
              rw [List.length_map, List.take_length] at hD6
              exact ⟨s6, by rw [hD6, take_at hr, List.flatMap_append, List.flatMap_singleton]⟩
          · obtain ⟨s5, hD5⟩ := hz
            rw [List.length_map, List.take_length] at hD5
            walk_at "go"
            refine ⟨D, (lv.flatMap fun r => (row rs r).filter fun t => decide (t ∈ us)).map Int.ofNat, rfl, SqL.of (by rw [hD5, List.map_map] <;> rfl), by
              rw [List.length_map]
              have := hflen lv.length
              rw [List.take_length] at this
              omega, fun us2 hnd2 hk2 => ?_, fun ks pL hks hmem hpL => ?_⟩
            · have := ints_le (n := rs.length) (fun k hk => by
                obtain ⟨t, ht, e⟩ := List.mem_map.mp (hk2 k hk)
                obtain ⟨r, _, ht2⟩ := List.mem_flatMap.mp ht
                exact ⟨t, hlt t (decide_eq_true_iff.mp (List.mem_filter.mp ht2).2), e.symm⟩) hnd2
              omega
            · walk_at "go"
              have h0 : ∀ k ∈ ks, 0 ≤ k := fun k hk => by
                obtain ⟨t, _, e⟩ := List.mem_map.mp ((hmem k).mp hk)
                rw [← e]
                exact Int.natCast_nonneg t
              obtain ⟨r, hr⟩ : ∃ r, r ∈ lv := List.exists_mem_of_length_pos (by omega)
              refine ⟨pL, ks.map Int.toNat, L', _, rfl, s14.trans (s5.trans (same_laid hpL)), by rw [upd_same, ints_nat h0], lvl_succ hw.b hus hlv (ints_lt h0 hks) (fun t => ?_), hlg', fun _ => ?_⟩
              · rw [List.mem_map]
                constructor
                · rintro ⟨k, hk, rfl⟩
                  obtain ⟨t, ht, rfl⟩ := List.mem_map.mp ((hmem k).mp hk)
                  obtain ⟨r, hr, ht2⟩ := List.mem_flatMap.mp ht
                  have h5 := List.mem_filter.mp ht2
                  exact ⟨r, hr, h5.1, decide_eq_true_iff.mp h5.2⟩
                · rintro ⟨r, hr, ht, hu⟩
                  exact ⟨Int.ofNat t, (hmem _).mpr (List.mem_map.mpr ⟨t, List.mem_flatMap.mpr ⟨r, hr, List.mem_filter.mpr ⟨ht, decide_eq_true hu⟩⟩, rfl⟩), rfl⟩
              · obtain ⟨v, ov, hvl2, hr2, hu⟩ := (hlv.2 r).mp hr
                exact ⟨v, ov, by omega, by rw [hr2]; exact hu⟩
    · obtain ⟨Lv, lv, L, x4, rfl, s3, hL3, hlv, hlg, hne⟩ := hq
      walk_at "go"
      obtain ⟨v, ov, hvn, x, ox, gx⟩ := hne (Nat.succ_pos _)
      exact k none H3 (s1.trans s3) ⟨v ++ x, ov.append ox, by rw [run_app]; exact gx, by rw [List.length_append]; omega⟩
end
abbrev s_check_number : Stmt := top 20
theorem sc_check_number : FnScope ["thing", "low", "high"] ["thing", "low", "high"] (fnScope s_check_number) := ⟨rfl, rfl, rfl, by decide +kernel, rfl, by decide +kernel, by decide +kernel⟩
def sp_check_number : Sp := fun vs H Q _ => ∃ (i lo hi : Int), vs = [.int i, .int lo, .int hi] ∧ lo ≤ i ∧ i ≤ hi ∧ Q .non H
section
variable {P : Program} {w : World} {K : PySem.W.Frag} {mg : Str → Option Value} {base : Heap} {C : Addr} {r : Er}
set_option maxHeartbeats 4000000 in
theorem ok_check_number {f : Addr} {fd : FuncData} (F : Def K mg "check_number" s_check_number f fd) (T : Txt K mg C r) (b : Binds K fd ["thing", "low", "high"] []) (c_is_integer : Cal P w K mg base 1 "is_integer" sp_is_integer []) : Cal P w K mg base 2 "check_number" (sp_check_number) [] := by
  refine cal0 F b .nil sc_check_number (fun vs H Q E h => ?_) (fun cdv A outer s H vs Q E hr h => ?_)
  · obtain ⟨_, _, _, rfl, _⟩ := h
    rfl
  · obtain ⟨i, lo, hi, rfl, h1, h2, k⟩ := h
    refine ⟨_, (pss_one (ps_if (pt_not (pt_val (pe_c c_is_integer hr (by decide) rfl (pa_cons (pv 0) (pa_cons (pv 1) (pa_cons (pv 2) pa_nil)))))) (pss_one ps_never) pss_nil)), ?_⟩
    walk_at "go"
    refine ⟨i, lo, hi, rfl, ?_⟩
    rw [decide_eq_true ⟨h1, h2⟩]
    walk_at "go"
    exact k
end
abbrev s_counts_from : Stmt := top 48
theorem sc_counts_from : FnScope ["reader", "length", "counts", "step", "room", "row", "one"] ["reader", "length"] (fnScope s_counts_from) := ⟨rfl, rfl, rfl, by decide +kernel, rfl, by decide +kernel, by decide +kernel⟩
def sp_counts_from (C : Addr) : Sp := fun vs H Q _ => ∃ (Z : AS) (p : Addr) (al : List Nat) (rs : Rws) (gd : List Nat) (l : Nat), vs = [.ref p, .int (l : Int)] ∧ Rd C Z H p al rs gd ∧ WF al.length rs ∧ l ≤ 4000 ∧ ∀ a H', Same H H' → H a = none → H' a = some (.lst ((cwL rs gd l).map vn)) → Q (.ref a) H'
section
variable {P : Program} {w : World} {K : PySem.W.Frag} {mg : Str → Option Value} {base : Heap} {C : Addr} {r : Er}
set_option maxHeartbeats 4000000 in
theorem ok_counts_from {f : Addr} {fd : FuncData} (F : Def K mg "counts_from" s_counts_from f fd) (T : Txt K mg C r) (b : Binds K fd ["reader", "length"] []) : Cal P w K mg base 1 "counts_from" (sp_counts_from C) [] := by
  refine cal0 F b .nil sc_counts_from (fun vs H Q E h => ?_) (fun cdv A outer s H vs Q E hr h => ?_)
  · obtain ⟨_, _, _, _, _, _, rfl, _⟩ := h
    rfl
  · obtain ⟨Z, p, al, rs, gd, l, rfl, hp, hw, hl, k⟩ := h
    refine ⟨_, (pss_cons (ps_set (i := 2) sc_counts_from.nd rfl (by first | exact Or.inl rfl | exact Or.inr rfl) (pe_lc (own := [("room", 4)]) rfl sc_counts_from.nd (pi_range1 (by rfl) T.b_range (pa_cons (pe_callB (lenK K rfl) (by rfl) T.b_len (by decide +kernel) (pa_cons (fldK K rfl (pv 0) rfl) pa_nil)) pa_nil)) (blkOk_by (by kernel_rfl)) (fun _ _ _ _ _ => (pg_name (i := 4) sc_counts_from.nd rfl (by first | exact Or.inl rfl | exact Or.inr rfl))) (fun _ _ _ _ _ => pts_nil) (fun _ _ _ _ _ => (pe_ifExp (pt_cmpR (inK K rfl) (pv 4) (fldK K rfl (pv 0) rfl) rfl) pe_int pe_int))))
        (pss_cons (ps_for PassesOwn.never rfl (pi_range1 (by rfl) T.b_range (pa_cons (pv 1) pa_nil)) (pg_name (i := 3) sc_counts_from.nd rfl (by first | exact Or.inl rfl | exact Or.inr rfl))
        (pss_one (ps_set (i := 2) sc_counts_from.nd rfl (by first | exact Or.inl rfl | exact Or.inr rfl) (pe_lc (own := [("row", 5)]) rfl sc_counts_from.nd (seqK K rfl (fldK K rfl (pv 0) rfl)) (blkOk_by (by kernel_rfl)) (fun _ _ _ _ _ => (pg_name (i := 5) sc_counts_from.nd rfl (by first | exact Or.inl rfl | exact Or.inr rfl))) (fun _ _ _ _ _ => pts_nil) (fun _ _ _ _ _ => (pe_callB (sumK K rfl rfl) (by rfl) T.b_sum (by decide +kernel) (pa_cons (pe_lc (own := [("one", 6)]) rfl sc_counts_from.nd (seqK K rfl (pv 5)) (blkOk_by (by kernel_rfl)) (fun _ _ _ _ _ => (pg_name (i := 6) sc_counts_from.nd rfl (by first | exact Or.inl rfl | exact Or.inr rfl))) (fun _ _ _ _ _ => pts_nil) (fun _ _ _ _ _ => (pe_ix (ixK K rfl) (pv 2) (pv 6) (fun _ _ => rfl)))) pa_nil)))))))
        (pss_one (ps_ret (pv 2))))), ?_⟩
    have hle := hw.le
    have hm3 := hw.m3
    obtain ⟨hpZ, dx, pm, pg, hp1, hp2, hp3⟩ := hp
    obtain ⟨_, as, hm1, hm2⟩ := id hp2
    have hasl : (as.map V.ref).length = rs.length := by rw [List.length_map, hm2.length]
    walk_at "go"
    refine i_fldR hp1 T.cl T.nM (flds_mo al pm pg) ?_
    walk_at "go"
    refine ⟨by omega, by omega, fun D hD => ?_⟩
    rw [Int.toNat_natCast, hasl]
    refine rng0_lc (fun i H' => i ≤ rs.length ∧ H' = upd H D (.lst (((List.range i).map (cw rs gd 0)).map vn))) ⟨Nat.zero_le _, rfl⟩ (fun i H' hi hq => ?_) (fun H' hq => ?_)
    · obtain ⟨_, rfl⟩ := hq
      have hpD : p ≠ D := ne_of_none hp1 hD
      have fin : ∀ v : Nat, v = cw rs gd 0 i → (∃ acc, (upd H D (.lst (((List.range i).map (cw rs gd 0)).map vn))) D = some (.lst acc) ∧ acc.length < sizeLine ∧ i + 1 ≤ rs.length ∧ upd (upd H D (.lst (((List.range i).map (cw rs gd 0)).map vn))) D (.lst (acc ++ [vn v])) = upd H D (.lst (((List.range (i + 1)).map (cw rs gd 0)).map vn))) := fun v e =>
        ⟨_, upd_same, szlt (by rw [List.length_map, List.length_map, List.length_range]; omega), hi, upd_lst (by rw [List.range_succ, List.map_append, List.map_append, e]; rfl)⟩
      walk_at "go"
      refine i_fldR (by rw [upd_ne hpD]; exact hp1) T.cl T.nG (flds_go al pm pg) ?_
      refine i_inI (t := true) (by rw [upd_ne (ne_of_none hp3.2 hD)]; exact hp3.2) ?_
      walk_at "go"
      refine iteD (fun h => ?_) (fun h => ?_)
      · walk_at "go"
        exact fin 1 (by unfold cw; rw [if_pos h])
      · walk_at "go"
        exact fin 0 (by unfold cw; rw [if_neg h])
    · obtain ⟨_, rfl⟩ := hq
      walk_at "go"
      refine ⟨by omega, by omega, ?_⟩
      rw [Int.toNat_natCast]
      refine rng0_for (fun i σ H' => ∃ (a : Addr) (x3 : Option V), σ = [some (.ref p), some (.int (l : Int)), some (.ref a), x3, none, none, none] ∧ Same H H' ∧ H a = none ∧ H' a = some (.lst ((cwL rs gd i).map vn))) ⟨D, none, rfl, same_laid hD, hD, upd_same⟩ (fun i σ H' hi hq => ?_) (fun σ H' hq => ?_)
      · obtain ⟨a, x3, rfl, s1, ha0, ha⟩ := hq
        walk_at "go"
        refine i_fldR (s1 _ _ hp1) T.cl T.nM (flds_mo al pm pg) ?_
        refine seq_lc (t := true) (s1 _ _ hm1) (fun E hE => ⟨fun j H3 => Same H' H3 ∧ H3 E = some (.lst (((rs.take j).map fun rw' => (rw'.map (cw rs gd i)).sum).map vn)), ⟨same_laid hE, upd_same⟩, fun j H3 _ ⟨e, _⟩ => e _ _ (s1 _ _ hm1), fun j v H3 hvj hz => ?_, fun H3 hz => ?_⟩)
        · obtain ⟨s3, hE3⟩ := hz
          obtain ⟨b, hvb, rfl⟩ := at_map hvj
          obtain ⟨rw', hrw, hia⟩ := Paired.at0 hm2 hvb
          have hb3 := (s1.trans s3) _ _ hia.2
          have ha3 := s3 _ _ ha
          have hmem := List.mem_of_getElem? hrw
          have hwid := hw.wid _ hmem
          have hj := (List.getElem?_eq_some_iff.mp hrw).1
          walk_at "go"
          refine seq_lc (t := true) hb3 (fun F hF => ⟨fun q H4 => Same H3 H4 ∧ H4 F = some (.lst (((rw'.take q).map (cw rs gd i)).map vn)), ⟨same_laid hF, upd_same⟩, fun q H4 _ ⟨e, _⟩ => e _ _ hb3, fun q v H4 hvq hz => ?_, fun H4 hz => ?_⟩)
          · obtain ⟨s4, hF4⟩ := hz
            obtain ⟨y, hy, rfl⟩ := at_map hvq
            have hyl := hw.lt _ hmem y (List.mem_of_getElem? hy)
            walk_at "go"
            refine i_ixL (s4 _ _ ha3) (vn_at (cwL_at hyl)) ?_
            exact ⟨_, hF4, szlt (by rw [List.length_map, List.length_map, List.length_take]; omega), Same.put s4 hF, by rw [upd_same, take_at hy, List.map_append, List.map_append] <;> rfl⟩
          · obtain ⟨s4, hF4⟩ := hz
            rw [List.length_map, List.take_length] at hF4
            walk_at "go"
            refine ⟨F, (rw'.map (cw rs gd i)).map Int.ofNat, rfl, SqL.of (by rw [hF4, show ((rw'.map (cw rs gd i)).map Int.ofNat).map V.int = (rw'.map (cw rs gd i)).map vn from List.map_map]), ?_⟩
            rw [sum_ints]
            exact ⟨_, s4 _ _ hE3, szlt (by rw [List.length_map, List.length_map, List.length_take]; omega), Same.put (s3.trans s4) hE, by rw [upd_same, take_at hrw, List.map_append, List.map_append] <;> rfl⟩
        · obtain ⟨s3, hE3⟩ := hz
          rw [hasl, List.take_length, cwL_succ] at hE3
          walk_at "go"
          exact ⟨E, _, rfl, s1.trans s3, same_free s1 hE, hE3⟩
      · obtain ⟨a, x3, rfl, s1, ha0, ha⟩ := hq
        walk_at "go"
        exact k a H' s1 ha0 ha
end
abbrev s_nth_of_length : Stmt := top 49
theorem sc_nth_of_length : FnScope ["reader", "number", "counts", "text", "room", "level", "k"] ["reader", "number", "counts"] (fnScope s_nth_of_length) := ⟨rfl, rfl, rfl, by decide +kernel, rfl, by decide +kernel, by decide +kernel⟩
def sp_nth_of_length (C : Addr) : Sp := fun vs H Q _ => ∃ (Z : AS) (p pc : Addr) (al : List Nat) (rs : Rws) (gd : List Nat) (n : Nat) (cs : List Addr), vs = [.ref p, .int (n : Int), .ref pc] ∧ Rd C Z H p al rs gd ∧ AlOk al ∧ WF al.length rs ∧ H pc = some (.lst (cs.map V.ref)) ∧ (∀ i c, cs[i]? = some c → H c = some (.lst ((cwL rs gd i).map vn))) ∧ cs.length ≤ 10000 ∧ n < cw rs gd cs.length 0 ∧
  ∀ w H', Same H H' → Ok al.length w → w.length = cs.length → run rs 0 w ∈ gd → bef rs gd 0 w = n → Q (.str (SX.S (spl al w))) H'
section
variable {P : Program} {w : World} {K : PySem.W.Frag} {mg : Str → Option Value} {base : Heap} {C : Addr} {r : Er}
set_option maxHeartbeats 4000000 in
theorem ok_nth_of_length {f : Addr} {fd : FuncData} (F : Def K mg "nth_of_length" s_nth_of_length f fd) (T : Txt K mg C r) (b : Binds K fd ["reader", "number", "counts"] []) : Cal P w K mg base 1 "nth_of_length" (sp_nth_of_length C) [] := by
  refine cal0 F b .nil sc_nth_of_length (fun vs H Q E h => ?_) (fun cdv A outer s H vs Q E hr h => ?_)
  · obtain ⟨_, _, _, _, _, _, _, _, rfl, _⟩ := h
    rfl
  · obtain ⟨Z, p, pc, al, rs, gd, n, cs, rfl, hp, ha, hw, hc, hcs, hcl, hn, k⟩ := h
    refine ⟨_, (pss_cons (ps_set (i := 3) sc_nth_of_length.nd rfl (by first | exact Or.inl rfl | exact Or.inr rfl) pe_str)
        (pss_cons (ps_set (i := 4) sc_nth_of_length.nd rfl (by first | exact Or.inl rfl | exact Or.inr rfl) pe_int)
        (pss_cons (ps_for PassesOwn.never rfl (seqK K rfl (revLK K rfl (pv 2))) (pg_name (i := 5) sc_nth_of_length.nd rfl (by first | exact Or.inl rfl | exact Or.inr rfl))
        (pss_cons (ps_set (i := 6) sc_nth_of_length.nd rfl (by first | exact Or.inl rfl | exact Or.inr rfl) pe_int)
        (pss_cons (ps_while PassesOwn.never (pt_cmpR op_le (pe_ix (ixK K rfl) (pv 5) (pe_ix (ixK K rfl) (pe_ix (ixK K rfl) (fldK K rfl (pv 0) rfl) (pv 4) (fun _ _ => rfl)) (pv 6) (fun _ _ => rfl)) (fun _ _ => rfl)) (pv 1) (nomark _)) (pss_cons (ps_set (i := 1) sc_nth_of_length.nd rfl (by first | exact Or.inl rfl | exact Or.inr rfl) (pe_op op_sub (pv 1) (pe_ix (ixK K rfl) (pv 5) (pe_ix (ixK K rfl) (pe_ix (ixK K rfl) (fldK K rfl (pv 0) rfl) (pv 4) (fun _ _ => rfl)) (pv 6) (fun _ _ => rfl)) (fun _ _ => rfl))))
        (pss_one (ps_set (i := 6) sc_nth_of_length.nd rfl (by first | exact Or.inl rfl | exact Or.inr rfl) (pe_op op_add (pv 6) pe_int)))))
        (pss_cons (ps_set (i := 3) sc_nth_of_length.nd rfl (by first | exact Or.inl rfl | exact Or.inr rfl) (pe_op op_add_str (pv 3) (pe_ix (ixK K rfl) (fldK K rfl (pv 0) rfl) (pv 6) (fun _ _ => rfl))))
        (pss_one (ps_set (i := 4) sc_nth_of_length.nd rfl (by first | exact Or.inl rfl | exact Or.inr rfl) (pe_ix (ixK K rfl) (pe_ix (ixK K rfl) (fldK K rfl (pv 0) rfl) (pv 4) (fun _ _ => rfl)) (pv 6) (fun _ _ => rfl))))))))
        (pss_one (ps_ret (pv 3)))))), ?_⟩
    have hle := hw.le
    have hm3 := hw.m3
    have hap := ha.pos
    have hal3 := ha.le
    have hla : (SX.S al).length = al.length := SX.S_len al
    obtain ⟨hpZ, dx, pm, pg, hp1, hp2, hp3⟩ := hp
    walk_at "go"
    refine ⟨pc, _, rfl, SqL.of hc, fun R hR => ?_⟩
    have sR : Same H (upd H R (.lst (cs.map V.ref).reverse)) := same_laid hR
    have hR1 : (upd H R (.lst (cs.map V.ref).reverse)) R = some (.lst (cs.map V.ref).reverse) := upd_same
    generalize (upd H R (.lst (cs.map V.ref).reverse)) = H1 at *
    refine seq_for (t := false) (xs := (cs.map V.ref).reverse) hR1 (fun i σ H' => ∃ (w : List Nat) (num : Nat) (x5 x6 : Option V), σ = [some (.ref p), some (vn num), some (.ref pc), some (.str (SX.S (spl al w))), some (vn (run rs 0 w)), x5, x6] ∧ H' = H1 ∧ w.length = i ∧ Ok al.length w ∧ befP rs gd 0 w (cs.length - i) + num = n ∧ num < cw rs gd (cs.length - i) (run rs 0 w))
      ⟨[], n, none, none, rfl, rfl, rfl, .nil, Nat.zero_add _, hn⟩ (fun i σ H' _ ⟨_, _, _, _, _, e, _⟩ => by rw [e]; exact hR1) (fun i v σ H' hv hq => ?_) (fun σ H' hq => ?_)
    · obtain ⟨w, num, x5, x6, rfl, eH, hwl, ow, hb, hlt⟩ := hq
      have eH := eH.symm
      subst eH
      have hi := (List.getElem?_eq_some_iff.mp hv).1
      rw [List.length_reverse, List.length_map] at hi
      have hv2 : (cs.map V.ref)[cs.length - 1 - i]? = some v := by
        rw [List.getElem?_reverse (by rw [List.length_map]; exact hi), List.length_map] at hv
        exact hv
      obtain ⟨c, hc1, rfl⟩ := at_map hv2
      have hlev := sR _ _ (hcs _ c hc1)
      obtain ⟨L, hL⟩ : ∃ L, L = cs.length - 1 - i := ⟨_, rfl⟩
      rw [← hL] at hlev
      rw [show cs.length - i = L + 1 by omega] at hb hlt
      rw [show cs.length - (i + 1) = L by omega]
      have hr : run rs 0 w < rs.length := hw.b.run_lt hw.pos ow
      generalize hrr : run rs 0 w = r at *
      obtain ⟨vs, b, hv1, hv2, hv3, hb1, hb2⟩ := hp2.at hr
      have hwr := hw.b.row_len hr
      have hp1' := sR _ _ hp1
      have hv1' := sR _ _ hv1
      have hb2' := sR _ _ hb2
      walk_at "go"
      refine i_while (al.length + 1) (fun k σ H' => ∃ num' : Nat, σ = [some (.ref p), some (vn num'), some (.ref pc), some (.str (SX.S (spl al w))), some (vn r), some (.ref c), some (vn k)] ∧ H' = H1 ∧ k ≤ al.length ∧ (((row rs r).take k).map (cw rs gd L)).sum + num' = num) ⟨num, rfl, rfl, Nat.zero_le _, by simp⟩ (fun k σ H' hz => ?_)
      obtain ⟨num', rfl, eH, hk, hs⟩ := hz
      have eH := eH.symm
      subst eH
      have hkm : k < al.length := by
        rcases Nat.lt_or_ge k al.length with z | z
        · exact z
        · exfalso
          rw [List.take_of_length_le (by omega)] at hs
          have : num < ((row rs r).map (cw rs gd L)).sum := hlt
          omega
      have hst := hw.b.stp_at hr hkm
      have hsl := hw.b.stp_lt hr hkm
      have hsum : (((row rs r).take (k + 1)).map (cw rs gd L)).sum = (((row rs r).take k).map (cw rs gd L)).sum + cw rs gd L (stp rs r k) := by
        rw [take_at hst, List.map_append, List.sum_append]
        simp
      walk_at "go"
      refine i_fldR hp1' T.cl T.nM (flds_mo al pm pg) ?_
      walk_at "go"
      refine i_ixT hv1' hv3 ?_
      walk_at "go"
      refine i_ixT hb2' (vn_at hst) ?_
      refine i_ixL hlev (vn_at (cwL_at hsl)) ?_
      walk_at "go"
      refine iteD (fun hx => ?_) (fun hx => ?_)
      · refine whT (by omega) ?_
        walk_at "go"
        refine i_fldR hp1' T.cl T.nM (flds_mo al pm pg) ?_
        walk_at "go"
        refine i_ixT hv1' hv3 ?_
        walk_at "go"
        refine i_ixT hb2' (vn_at hst) ?_
        refine i_ixL hlev (vn_at (cwL_at hsl)) ?_
        walk_at "go"
        refine ⟨num' - cw rs gd L (stp rs r k), ?_, rfl, hkm, by omega⟩
        rw [show ((num' : Int) - (cw rs gd L (stp rs r k) : Int)) = ((num' - cw rs gd L (stp rs r k) : Nat) : Int) by omega]
        rfl
      · walk_at "go"
        refine i_fldR hp1' T.cl T.nA (flds_al al pm pg) ?_
        walk_at "go"
        have hcc : al[k]? = some (al.getD k 0) := by
          rw [List.getD_eq_getElem?_getD, List.getElem?_eq_getElem hkm]
          rfl
        refine i_ixS (szl (by omega)) (S_at hcc) ?_
        have hz1 : (SX.S (spl al w)).length = i := by rw [SX.S_len, spl_len, hwl]
        have hz2 : (⟨#[al.getD k 0]⟩ : Str).length = 1 := rfl
        refine ⟨_, _, rfl, rfl, by rw [sizeLine_eq]; omega, ?_⟩
        rw [spl_snoc]
        walk_at "go"
        refine i_fldR hp1' T.cl T.nM (flds_mo al pm pg) ?_
        walk_at "go"
        refine i_ixT hv1' hv3 ?_
        walk_at "go"
        refine i_ixT hb2' (vn_at hst) ?_
        walk_at "go"
        have hrs : run rs 0 (w ++ [k]) = stp rs r k := by rw [run_snoc, hrr]
        exact ⟨w ++ [k], num', _, _, by rw [hrs]; rfl, rfl, by rw [List.length_append, hwl]; rfl, ow.snoc hkm, by rw [befP_snoc, hrr]; omega, by rw [hrs]; omega⟩
    · obtain ⟨w, num, x5, x6, rfl, eH, hwl, ow, hb, hlt⟩ := hq
      have eH := eH.symm
      subst eH
      rw [List.length_reverse, List.length_map] at hwl hb hlt
      rw [Nat.sub_self] at hb hlt
      have h0 : num = 0 ∧ run rs 0 w ∈ gd := by
        unfold cw at hlt
        split at hlt
        · exact ⟨by omega, by assumption⟩
        · omega
      walk_at "go"
      exact k w _ sR ow hwl h0.2 (by rw [bef_P]; omega)
end
abbrev s_nth : Stmt := top 50
theorem sc_nth : FnScope ["reader", "number", "longest", "length", "levels", "level", "row", "one"] ["reader", "number"] (fnScope s_nth) := ⟨rfl, rfl, rfl, by decide +kernel, rfl, by decide +kernel, by decide +kernel⟩
theorem i_orT {c : Prop} [Decidable c] {A' B' : Hp → Prop} {t : TT} {σ : L2.St} {H : Hp} (P : Prop) (hc : c → P) (hA : P → A' H) (hB : ¬ c → (P → A' H) → t σ H fun b H1 => if b = true then A' H1 else B' H1) : if decide c = true then (if true = true then A' H else B' H) else t σ H fun b H1 => if b = true then A' H1 else B' H1 := by
  by_cases h : c
  · rw [decide_eq_true h, if_pos rfl, if_pos rfl]
    exact hA (hc h)
  · rw [decide_eq_false h, if_neg Bool.false_ne_true]
    exact hB h hA
def sp_nth (C : Addr) : Sp := fun vs H Q _ => ∃ (Z : AS) (p : Addr) (al : List Nat) (rs : Rws) (gd : List Nat) (n : Nat), vs = [.ref p, .int (n : Int)] ∧ Rd C Z H p al rs gd ∧ AlOk al ∧ WF al.length rs ∧ n ≤ 100 ∧ ∀ res H', Same H H' → NthR al.length rs gd n res → (∀ w, res = some w → w.length ≤ 10000) → Q (txtO al res) H'
section
variable {P : Program} {w : World} {K : PySem.W.Frag} {mg : Str → Option Value} {base : Heap} {C : Addr} {r : Er}
set_option maxHeartbeats 4000000 in
theorem ok_nth {f : Addr} {fd : FuncData} (F : Def K mg "nth" s_nth f fd) (T : Txt K mg C r) (b : Binds K fd ["reader", "number"] []) (c_check_number : Cal P w K mg base 2 "check_number" sp_check_number []) (c_longest_of : Cal P w K mg base 3 "longest_of" (sp_longest_of C) []) (c_counts_from : Cal P w K mg base 1 "counts_from" (sp_counts_from C) []) (c_nth_of_length : Cal P w K mg base 1 "nth_of_length" (sp_nth_of_length C) []) : Cal P w K mg base 4 "nth" (sp_nth C) [] := by
  refine cal0 F b .nil sc_nth (fun vs H Q E h => ?_) (fun cdv A outer s H vs Q E hr h => ?_)
  · obtain ⟨_, _, _, _, _, _, rfl, _⟩ := h
    rfl
  · obtain ⟨Z, p, al, rs, gd, n, rfl, hp, ha, hw, hn, k⟩ := h
    refine ⟨_, (pss_cons (ps_expr (pe_c c_check_number hr (by decide) rfl (pa_cons (pv 1) (pa_cons pe_int (pa_cons (pe_gc rfl T.c_MOST_NUMBER) pa_nil)))))
        (pss_cons (ps_set (i := 2) sc_nth.nd rfl (by first | exact Or.inl rfl | exact Or.inr rfl) (pe_c c_longest_of hr (by decide) rfl (pa_cons (pv 0) pa_nil)))
        (pss_cons (ps_set (i := 3) sc_nth.nd rfl (by first | exact Or.inl rfl | exact Or.inr rfl) pe_int)
        (pss_cons (ps_set (i := 4) sc_nth.nd rfl (by first | exact Or.inl rfl | exact Or.inr rfl) (pe_lst pa_nil))
        (pss_cons (ps_set (i := 5) sc_nth.nd rfl (by first | exact Or.inl rfl | exact Or.inr rfl) (pe_c c_counts_from hr (by decide) rfl (pa_cons (pv 0) (pa_cons pe_int pa_nil))))
        (pss_cons (ps_while PassesOwn.never (PW.pt (pw_or (pt_cmpR op_isN1 (pv 2) pe_non (nomark _)) (pw_or1 (pt_cmpR op_le (pv 3) (pv 2) (nomark _))))) (pss_cons (ps_if (pt_cmpR op_lt (pv 1) (pe_ix (ixK K rfl) (pv 5) pe_int (fun _ _ => rfl)) (nomark _)) (pss_one (ps_ret (pe_c c_nth_of_length hr (by decide) rfl (pa_cons (pv 0) (pa_cons (pv 1) (pa_cons (pv 4) pa_nil)))))) pss_nil)
        (pss_cons (ps_set (i := 1) sc_nth.nd rfl (by first | exact Or.inl rfl | exact Or.inr rfl) (pe_op op_sub (pv 1) (pe_ix (ixK K rfl) (pv 5) pe_int (fun _ _ => rfl))))
        (pss_cons (ps_expr (bmK K rfl (pe_bm PySem.F.plainAttrs_list PySem.F.slot_list_append PySem.F.type_list_append mt_append (pv 4) (pa_cons (pv 5) pa_nil))))
        (pss_cons (ps_set (i := 5) sc_nth.nd rfl (by first | exact Or.inl rfl | exact Or.inr rfl) (pe_lc (own := [("row", 6)]) rfl sc_nth.nd (seqK K rfl (fldK K rfl (pv 0) rfl)) (blkOk_by (by kernel_rfl)) (fun _ _ _ _ _ => (pg_name (i := 6) sc_nth.nd rfl (by first | exact Or.inl rfl | exact Or.inr rfl))) (fun _ _ _ _ _ => pts_nil) (fun _ _ _ _ _ => (pe_callB (sumK K rfl rfl) (by rfl) T.b_sum (by decide +kernel) (pa_cons (pe_lc (own := [("one", 7)]) rfl sc_nth.nd (seqK K rfl (pv 6)) (blkOk_by (by kernel_rfl)) (fun _ _ _ _ _ => (pg_name (i := 7) sc_nth.nd rfl (by first | exact Or.inl rfl | exact Or.inr rfl))) (fun _ _ _ _ _ => pts_nil) (fun _ _ _ _ _ => (pe_ix (ixK K rfl) (pv 5) (pv 7) (fun _ _ => rfl)))) pa_nil)))))
        (pss_one (ps_set (i := 3) sc_nth.nd rfl (by first | exact Or.inl rfl | exact Or.inr rfl) (pe_op op_add (pv 3) pe_int))))))))
        (pss_one (ps_ret pe_non)))))))), ?_⟩
    have hle := hw.le
    have hm3 := hw.m3
    have hpos := hw.pos
    obtain ⟨hpZ, dx, pm, pg, hp1, hp2, hp3⟩ := id hp
    obtain ⟨_, as, hm1, hm2⟩ := id hp2
    have hasl : (as.map V.ref).length = rs.length := by rw [List.length_map, hm2.length]
    walk_at "go"
    refine ⟨(n : Int), 0, 100, rfl, by omega, by omega, ?_⟩
    walk_at "go"
    refine ⟨Z, p, al, rs, gd, rfl, hp, hw, fun res H1 s1 hL => ?_⟩
    walk_at "go"
    refine ⟨by decide, fun Lv hLv => ?_⟩
    walk_at "go"
    have sL : Same H1 (upd H1 Lv (.lst [])) := same_laid hLv
    have hLvH : H Lv = none := same_free s1 hLv
    have hLv1 : (upd H1 Lv (.lst [])) Lv = some (.lst (([] : List Addr).map V.ref)) := upd_same
    have s01 := s1.trans sL
    generalize (upd H1 Lv (.lst [])) = H2 at *
    refine ⟨Z, p, al, rs, gd, 0, rfl, hp.same s01, hw, by omega, fun a H3 s3 ha0 ha3 => ?_⟩
    walk_at "go"
    refine i_while 6200 (fun l σ H4 => ∃ (num : Nat) (a : Addr) (cs : List Addr), σ = [some (.ref p), some (vn num), some (resV res), some (vn l), some (.ref Lv), some (.ref a), none, none] ∧ Same H H4 ∧ H4 Lv = some (.lst (cs.map V.ref)) ∧ cs.length = l ∧ (∀ i c, cs[i]? = some c → c ≠ Lv ∧ H4 c = some (.lst ((cwL rs gd i).map vn))) ∧ a ≠ Lv ∧ H4 a = some (.lst ((cwL rs gd l).map vn)) ∧ cntTo rs gd l + num = n ∧ (∀ L, res = some L → (l : Int) ≤ L + 1))
      ⟨n, a, [], rfl, s01.trans s3, s3 _ _ hLv1, rfl, fun i c h => by simp at h, (ne_of_none hLv1 ha0).symm, ha3, by simp [cntTo], fun L e => by
        subst e
        have := hL.1
        omega⟩ (fun l σ H4 hz => ?_)
    obtain ⟨num, a, cs, rfl, s4, hL4, hcl, hcs, haL, ha4, hcn, hll⟩ := hz
    have hl : (res = none ∨ ∃ L, res = some L ∧ (l : Int) ≤ L) → l < 6121 := fun h => by
      rcases h with h | ⟨L, h, h2⟩
      · subst h
        rcases Nat.lt_or_ge l 6121 with z | z
        · exact z
        · have h1 : (n + 2) * rs.length ≤ 102 * 60 := Nat.mul_le_mul (by omega) hle
          have := endless_cnt hw.b hL (n := n) (l := l) (by omega)
          omega
      · subst h
        have := hL.2.1
        omega
    walk_at "go"
    refine i_orT (P := res = none ∨ ∃ L, res = some L ∧ (l : Int) ≤ L) (fun hc => ?_) (fun hP => ?_) (fun hc hA => ?_)
    · cases res with
      | none => exact .inl rfl
      | some L => cases hc
    · refine whT (Nat.lt_trans (hl hP) (by decide)) ?_
      walk_at "go"
      refine i_ixL ha4 (vn_at (i := 0) (cwL_at hpos)) ?_
      walk_at "go"
      have hl2 := hl hP
      refine iteD (fun hx => ?_) (fun hx => ?_)
      · walk_at "go"
        refine ⟨Z, p, Lv, al, rs, gd, num, cs, rfl, hp.same s4, ha, hw, hL4, fun i c h => (hcs i c h).2, by omega, by rw [hcl]; omega, fun w H5 s5 ow hwl hg hb => ?_⟩
        refine k (some w) H5 (s4.trans s5) ⟨ow, hg, ?_⟩ (fun w' e => by cases e; omega)
        unfold rank
        rw [hwl, hcl, hb]
        exact hcn
      · walk_at "go"
        refine i_ixL ha4 (vn_at (i := 0) (cwL_at hpos)) ?_
        walk_at "go"
        refine i_append hL4 (by rw [List.length_map]; omega) ?_
        have hLn : ∀ vs, H4 Lv ≠ some (.tup vs) := fun vs => by
          rw [hL4]
          intro z
          cases z
        have s5 : Same H (upd H4 Lv (.lst (cs.map V.ref ++ [.ref a]))) := Same.put s4 hLvH
        have hL5 : (upd H4 Lv (.lst (cs.map V.ref ++ [.ref a]))) Lv = some (.lst ((cs ++ [a]).map V.ref)) := by rw [upd_same, List.map_append] <;> rfl
        have ha5 : (upd H4 Lv (.lst (cs.map V.ref ++ [.ref a]))) a = some (.lst ((cwL rs gd l).map vn)) := by rw [upd_ne haL]; exact ha4
        have hcs5 : ∀ i c, (cs ++ [a])[i]? = some c → c ≠ Lv ∧ (upd H4 Lv (.lst (cs.map V.ref ++ [.ref a]))) c = some (.lst ((cwL rs gd i).map vn)) := fun i c h => by
          rcases Nat.lt_or_ge i cs.length with z | z
          · rw [List.getElem?_append_left z] at h
            obtain ⟨h1, h2⟩ := hcs i c h
            exact ⟨h1, by rw [upd_ne h1]; exact h2⟩
          · rw [List.getElem?_append_right z] at h
            have hz : i - cs.length = 0 := by
              have := (List.getElem?_eq_some_iff.mp h).1
              simp at this
              omega
            rw [hz] at h
            cases h
            have : i = l := by omega
            rw [this]
            exact ⟨haL, ha5⟩
        generalize (upd H4 Lv (.lst (cs.map V.ref ++ [.ref a]))) = H5 at *
        walk_at "go"
        refine i_fldR (s5 _ _ hp1) T.cl T.nM (flds_mo al pm pg) ?_
        refine seq_lc (t := true) (s5 _ _ hm1) (fun E hE => ⟨fun j H3 => Same H5 H3 ∧ H3 E = some (.lst (((rs.take j).map fun rw' => (rw'.map (cw rs gd l)).sum).map vn)), ⟨same_laid hE, upd_same⟩, fun j H3 _ ⟨e, _⟩ => e _ _ (s5 _ _ hm1), fun j v H3 hvj hz => ?_, fun H3 hz => ?_⟩)
        · obtain ⟨s6, hE3⟩ := hz
          obtain ⟨b, hvb, rfl⟩ := at_map hvj
          obtain ⟨rw', hrw, hia⟩ := Paired.at0 hm2 hvb
          have hb3 := (s5.trans s6) _ _ hia.2
          have ha3 := s6 _ _ ha5
          have hmem := List.mem_of_getElem? hrw
          have hwid := hw.wid _ hmem
          have hj := (List.getElem?_eq_some_iff.mp hrw).1
          walk_at "go"
          refine seq_lc (t := true) hb3 (fun F hF => ⟨fun q H4 => Same H3 H4 ∧ H4 F = some (.lst (((rw'.take q).map (cw rs gd l)).map vn)), ⟨same_laid hF, upd_same⟩, fun q H4 _ ⟨e, _⟩ => e _ _ hb3, fun q v H4 hvq hz => ?_, fun H4 hz => ?_⟩)
          · obtain ⟨s7, hF4⟩ := hz
            obtain ⟨y, hy, rfl⟩ := at_map hvq
            have hyl := hw.lt _ hmem y (List.mem_of_getElem? hy)
            walk_at "go"
            refine i_ixL (s7 _ _ ha3) (vn_at (cwL_at hyl)) ?_
            exact ⟨_, hF4, szlt (by rw [List.length_map, List.length_map, List.length_take]; omega), Same.put s7 hF, by rw [upd_same, take_at hy, List.map_append, List.map_append] <;> rfl⟩
          · obtain ⟨s7, hF4⟩ := hz
            rw [List.length_map, List.take_length] at hF4
            walk_at "go"
            refine ⟨F, (rw'.map (cw rs gd l)).map Int.ofNat, rfl, SqL.of (by rw [hF4, show ((rw'.map (cw rs gd l)).map Int.ofNat).map V.int = (rw'.map (cw rs gd l)).map vn from List.map_map]), ?_⟩
            rw [sum_ints]
            exact ⟨_, s7 _ _ hE3, szlt (by rw [List.length_map, List.length_map, List.length_take]; omega), Same.put (s6.trans s7) hE, by rw [upd_same, take_at hrw, List.map_append, List.map_append] <;> rfl⟩
        · obtain ⟨s6, hE3⟩ := hz
          rw [hasl, List.take_length, cwL_succ] at hE3
          walk_at "go"
          have hEL : E ≠ Lv := (ne_of_none hL5 hE).symm
          refine ⟨num - cw rs gd l 0, E, cs ++ [a], ?_, s5.trans s6, s6 _ _ hL5, by rw [List.length_append, hcl]; rfl, fun i c h => ⟨(hcs5 i c h).1, s6 _ _ (hcs5 i c h).2⟩, hEL, hE3, by rw [cntTo_succ]; omega, fun L e => ?_⟩
          · rw [show ((num : Int) - (cw rs gd l 0 : Int)) = ((num - cw rs gd l 0 : Nat) : Int) by omega]
            rfl
          · rcases hP with h | ⟨L', h, h2⟩
            · rw [h] at e
              cases e
            · rw [h] at e
              cases e
              omega
    · cases res with
      | none => exact absurd rfl hc
      | some L =>
        walk_at "go"
        show rI0 (fun i j => V.bl (decide (i ≤ j))) (V.int (l : Int)) (V.int L) H4 _
        walk_at "go"
        refine iteD (fun hx => hA (.inr ⟨L, rfl, hx⟩)) (fun hx => ?_)
        walk_at "go"
        have := hll L rfl
        refine k none H4 s4 ⟨L, hL, ?_⟩ (fun w e => by cases e)
        rw [show (L + 1).toNat = l by omega]
        omega
end
abbrev s_least : Stmt := top 52
theorem sc_least : FnScope ["reader"] ["reader"] (fnScope s_least) := ⟨rfl, rfl, rfl, by decide +kernel, rfl, by decide +kernel, by decide +kernel⟩
def sp_least (C : Addr) : Sp := fun vs H Q _ => ∃ (Z : AS) (p : Addr) (al : List Nat) (rs : Rws) (gd : List Nat), vs = [.ref p] ∧ Rd C Z H p al rs gd ∧ AlOk al ∧ WF al.length rs ∧
  ∀ A gA q H', LeastOf rs gd A gA → Same H H' → H q = none → Rd C (Old H) H' q al A gA → Q (.ref q) H'
section
variable {P : Program} {w : World} {K : PySem.W.Frag} {mg : Str → Option Value} {base : Heap} {C : Addr} {r : Er}
set_option maxHeartbeats 4000000 in
theorem ok_least {f : Addr} {fd : FuncData} (F : Def K mg "least" s_least f fd) (T : Txt K mg C r) (b : Binds K fd ["reader"] []) (c_reader_of_table : CalX P w K mg base 5 "reader_of_table" (sp_reader_of_table C r)) (c_good_marks : Cal P w K mg base 1 "good_marks" (sp_good_marks C) []) (e_TooMany : MakE P w K mg base "TooMany" r.TooMany r.TooMany "what" FmtOk) : Cal P w K mg base 6 "least" (sp_least C) [] := by
  refine cal0 F b .nil sc_least (fun vs H Q E h => ?_) (fun cdv A outer s H vs Q E hr h => ?_)
  · obtain ⟨_, _, _, _, _, rfl, _⟩ := h
    rfl
  · obtain ⟨Z, p, al, rs, gd, rfl, hp, ha, hw, k⟩ := h
    refine ⟨_, (pss_one (ps_ret (pe_cX c_reader_of_table hr (by decide) takes0 rfl (pa_cons (fldK K rfl (pv 0) rfl) (pa_cons (fldK K rfl (pv 0) rfl) (pa_cons (pe_c c_good_marks hr (by decide) rfl (pa_cons (pv 0) pa_nil)) pa_nil)))))), ?_⟩
    walk_at "go"
    have hp0 := hp
    obtain ⟨hpZ, dx, pm, pg, hp1, hp2, hp3⟩ := hp
    refine i_fldR hp1 T.cl T.nA (flds_al al pm pg) ?_
    walk_at "go"
    refine i_fldR hp1 T.cl T.nM (flds_mo al pm pg) ?_
    walk_at "go"
    refine ⟨Z, p, al, rs, gd, rfl, hp0, hw.le, fun a H1 s1 ha0 ha1 => ?_⟩
    refine ⟨Z, al, pm, a, rs, _, rfl, (hp2.same s1).rows, ha1, ha, hw.b, fun j i o g ho hi hcn hg => ?_⟩
    have hL : LeastOf rs gd (lrows rs o g) (lgood (fun r => decide (r ∈ gd)) o g) := ⟨j, i, o, g, ho, hi, hcn, hg, rfl, rfl⟩
    have h60 : (lrows rs o g).length ≤ 60 := Nat.le_trans (least_len hw.b hL) hw.le
    exact ⟨fun _ q H2 s2 hq0 hr => k _ _ q H2 hL (s1.trans s2) (same_free s1 hq0) (hr.weak fun b hb => let ⟨u, hu⟩ := hb; ⟨u, s1 _ _ hu⟩), fun h => absurd h (by omega)⟩
end
abbrev s_law_texts : Stmt := top 57
theorem sc_law_texts : FnScope ["alphabet", "most", "level", "told", "k", "later", "text", "letter"] ["alphabet", "most"] (fnScope s_law_texts) := ⟨rfl, rfl, rfl, by decide +kernel, rfl, by decide +kernel, by decide +kernel⟩
def sp_law_texts : Sp := fun vs H Q _ => ∃ (al : List Nat) (most : Nat), vs = [.str (SX.S al), .int (most : Int)] ∧ AlOk al ∧ most ≤ 8 ∧ ∀ a H', Same H H' → H a = none → H' a = some (.lst ((allTo al.length most).map (tx al))) → Q (.ref a) H'
theorem pow_le8 {m l : Nat} (h : m ≤ 3) (hl : l ≤ 8) : m ^ l ≤ 6561 := Nat.le_trans (Nat.pow_le_pow_left h l) (Nat.le_trans (Nat.pow_le_pow_right (by decide) hl) (by decide))
section
variable {P : Program} {w : World} {K : PySem.W.Frag} {mg : Str → Option Value} {base : Heap} {C : Addr} {r : Er}
set_option maxHeartbeats 4000000 in
theorem ok_law_texts {f : Addr} {fd : FuncData} (F : Def K mg "_law_texts" s_law_texts f fd) (T : Txt K mg C r) (b : Binds K fd ["alphabet", "most"] []) : Cal P w K mg base 1 "_law_texts" (sp_law_texts) [] := by
  refine cal0 F b .nil sc_law_texts (fun vs H Q E h => ?_) (fun cdv A outer s H vs Q E hr h => ?_)
  · obtain ⟨_, _, rfl, _⟩ := h
    rfl
  · obtain ⟨al, most, rfl, ha, hm, k⟩ := h
    refine ⟨_, (pss_cons (ps_set (i := 2) sc_law_texts.nd rfl (by first | exact Or.inl rfl | exact Or.inr rfl) (pe_lst (pa_cons pe_str pa_nil)))
        (pss_cons (ps_set (i := 3) sc_law_texts.nd rfl (by first | exact Or.inl rfl | exact Or.inr rfl) (pe_lst (pa_cons pe_str pa_nil)))
        (pss_cons (ps_for PassesOwn.never rfl (pi_range1 (by rfl) T.b_range (pa_cons (pv 1) pa_nil)) (pg_name (i := 4) sc_law_texts.nd rfl (by first | exact Or.inl rfl | exact Or.inr rfl))
        (pss_cons (ps_set (i := 5) sc_law_texts.nd rfl (by first | exact Or.inl rfl | exact Or.inr rfl) (pe_lst pa_nil))
        (pss_cons (ps_for PassesOwn.never rfl (seqK K rfl (pv 2)) (pg_name (i := 6) sc_law_texts.nd rfl (by first | exact Or.inl rfl | exact Or.inr rfl))
        (pss_one (ps_for PassesOwn.never rfl (pi_str (pv 0)) (pg_name (i := 7) sc_law_texts.nd rfl (by first | exact Or.inl rfl | exact Or.inr rfl))
        (pss_one (ps_expr (bmK K rfl (pe_bm PySem.F.plainAttrs_list PySem.F.slot_list_append PySem.F.type_list_append mt_append (pv 5) (pa_cons (pe_op op_add_str (pv 6) (pv 7)) pa_nil))))))))
        (pss_cons (ps_set (i := 2) sc_law_texts.nd rfl (by first | exact Or.inl rfl | exact Or.inr rfl) (pe_callTy (listK K rfl) (by rfl) T.b_list (by decide +kernel) (pa_cons (pv 5) pa_nil)))
        (pss_one (ps_set (i := 3) sc_law_texts.nd rfl (by first | exact Or.inl rfl | exact Or.inr rfl) (pe_op op_cat (pv 3) (pv 5))))))))
        (pss_one (ps_ret (pv 3)))))), ?_⟩
    have hap := ha.pos
    have hal3 := ha.le
    have hla : (SX.S al).length = al.length := SX.S_len al
    walk_at "go"
    refine ⟨sz1, fun L0 hL0 => ?_⟩
    walk_at "go"
    refine ⟨sz1, fun T0 hT0 => ?_⟩
    walk_at "go"
    refine ⟨by omega, by omega, ?_⟩
    rw [Int.toNat_natCast]
    have s0 : Same H (upd H L0 (.lst [.str ""])) := same_laid hL0
    refine rng0_for (fun i σ H1 => ∃ (L T0 : Addr) (x4 x5 x6 x7 : Option V), σ = [some (.str (SX.S al)), some (vn most), some (.ref L), some (.ref T0), x4, x5, x6, x7] ∧ Same H H1 ∧ H T0 = none ∧ H1 L = some (.lst ((allL al.length i).map (tx al))) ∧ H1 T0 = some (.lst ((allTo al.length i).map (tx al))))
      ⟨L0, T0, none, none, none, none, rfl, s0.trans (same_laid hT0), same_free s0 hT0, (same_laid hT0) _ _ upd_same, upd_same⟩ (fun i σ H1 hi hq => ?_) (fun σ H1 hq => ?_)
    · obtain ⟨L, T0, x4, x5, x6, x7, rfl, s1, hT0, hL1, hT1⟩ := hq
      have hpw := pow_le8 (m := al.length) (l := i) hal3 (by omega)
      have hpw2 := pow_le8 (m := al.length) (l := i + 1) hal3 (by omega)
      have hll : (allL al.length i).length ≤ 6561 := by rw [allL_len]; exact hpw
      walk_at "go"
      refine ⟨by decide, fun R hR => ?_⟩
      walk_at "go"
      have sR : Same H1 (upd H1 R (.lst [])) := same_laid hR
      have hR1 : (upd H1 R (.lst [])) R = some (.lst ((([] : List (List Nat)).flatMap (extW al.length)).map (tx al))) := upd_same
      have hL2 := sR _ _ hL1
      have hT2 := sR _ _ hT1
      generalize (upd H1 R (.lst [])) = H2 at *
      refine seq_for (t := false) hL2 (fun j σ H3 => ∃ (x6 x7 : Option V), σ = [some (.str (SX.S al)), some (vn most), some (.ref L), some (.ref T0), some (vn i), some (.ref R), x6, x7] ∧ Same H1 H3 ∧ H3 L = some (.lst ((allL al.length i).map (tx al))) ∧ H3 R = some (.lst ((((allL al.length i).take j).flatMap (extW al.length)).map (tx al)))) ⟨_, _, rfl, sR, hL2, by rw [List.take_zero]; exact hR1⟩ (fun j σ H3 _ ⟨_, _, _, _, h, _⟩ => h) (fun j v σ H3 hv hq => ?_) (fun σ H3 hq => ?_)
      · obtain ⟨x6, x7, rfl, s3, hL3, hR3⟩ := hq
        obtain ⟨w, hw, rfl⟩ := at_map hv
        have hwl := ((allL_ok _ _).mp (List.mem_of_getElem? hw)).2
        have hfl : ∀ q, (((allL al.length i).take q).flatMap (extW al.length)).length ≤ 3 * 6561 := fun q => by
          have key : ∀ l : List (List Nat), (l.flatMap (extW al.length)).length = l.length * al.length := fun l => by
            induction l with
            | nil => simp
            | cons a l ih =>
              rw [List.flatMap_cons, List.length_append, ih, List.length_cons, Nat.add_mul, Nat.one_mul]
              unfold extW
              rw [List.length_map, List.length_range]
              omega
          rw [key, List.length_take]
          have h1 : min q (allL al.length i).length * al.length ≤ 6561 * 3 := Nat.mul_le_mul (by omega) hal3
          omega
        have hfj := hfl j
        walk_at "go"
        refine str_for (fun q σ H4 => ∃ (x7 : Option V), q ≤ al.length ∧ σ = [some (.str (SX.S al)), some (vn most), some (.ref L), some (.ref T0), some (vn i), some (.ref R), some (tx al w), x7] ∧ Same H1 H4 ∧ H4 L = some (.lst ((allL al.length i).map (tx al))) ∧ H4 R = some (.lst ((((allL al.length i).take j).flatMap (extW al.length) ++ (List.range q).map fun a => w ++ [a]).map (tx al)))) ⟨_, Nat.zero_le _, rfl, s3, hL3, by rw [List.range_zero, List.map_nil, List.append_nil]; exact hR3⟩ (fun q c σ H4 hc hq => ?_) (fun σ H4 hq => ?_)
        · obtain ⟨x7, _, rfl, s4, hL4, hR4⟩ := hq
          have hc' : al[q]? = some c := by simpa [SX.S] using hc
          have hqa := (List.getElem?_eq_some_iff.mp hc').1
          have hcd : al.getD q 0 = c := by rw [List.getD_eq_getElem?_getD, hc'] <;> rfl
          walk_at "go"
          have hz1 : (SX.S (spl al w)).length = i := by rw [SX.S_len, spl_len, hwl]
          have hz2 : (⟨#[c]⟩ : Str).length = 1 := rfl
          refine ⟨_, _, rfl, rfl, by rw [sizeLine_eq]; omega, ?_⟩
          rw [← hcd, spl_snoc]
          walk_at "go"
          have hRL : R ≠ L := fun z => by
            rw [z, hL1] at hR
            cases hR
          refine i_append hR4 (by rw [List.length_map, List.length_append, List.length_map, List.length_range]; omega) ?_
          walk_at "go"
          refine ⟨_, hqa, by rw [hcd]; rfl, Same.put s4 hR, by rw [upd_ne hRL.symm]; exact hL4, ?_⟩
          rw [upd_same, List.range_succ]
          simp only [List.map_append, List.map_cons, List.map_nil, List.append_assoc]
          rfl
        · obtain ⟨x7, _, rfl, s4, hL4, hR4⟩ := hq
          rw [show (SX.S al).cps.size = al.length from hla] at hR4
          refine ⟨_, _, rfl, s4, hL4, ?_⟩
          rw [hR4, take_at hw, List.flatMap_append, List.flatMap_singleton]
          rfl
      · obtain ⟨x6, x7, rfl, s3, hL3, hR3⟩ := hq
        rw [List.length_map, List.take_length] at hR3
        have hR3 : H3 R = some (.lst ((allL al.length (i + 1)).map (tx al))) := hR3
        walk_at "go"
        refine i_listOf (t := false) hR3 (fun L2 hL2 => ?_)
        walk_at "go"
        have s5 := s3.trans (same_laid (o := .lst ((allL al.length (i + 1)).map (tx al))) hL2)
        have hal : (allTo al.length i).length ≤ 100000 := by
          have key : ∀ l, l ≤ 8 → (allTo al.length l).length ≤ 6561 * (l + 1) := fun l => by
            induction l with
            | zero => exact fun _ => by show 1 ≤ _; omega
            | succ l ih =>
              intro h
              show (allTo al.length l ++ allL al.length (l + 1)).length ≤ _
              rw [List.length_append, allL_len]
              have := ih (by omega)
              have := pow_le8 (m := al.length) (l := l + 1) hal3 h
              omega
          have := key i (by omega)
          omega
        refine i_cat (s5 _ _ hT1) ((same_laid hL2) _ _ hR3) (by rw [List.length_map, List.length_map, allL_len]; omega) (fun T2 hT2 => ?_)
        walk_at "go"
        refine ⟨L2, T2, _, _, _, _, rfl, (s1.trans s5).trans (same_laid hT2), same_free (s1.trans s5) hT2, (same_laid hT2) _ _ upd_same, ?_⟩
        rw [upd_same, ← List.map_append]
        rfl
    · obtain ⟨L, T0, x4, x5, x6, x7, rfl, s1, hT0, hL1, hT1⟩ := hq
      walk_at "go"
      exact k T0 H1 s1 hT0 hT1
end
abbrev s_law_holds : Stmt := top 67
theorem sc_law_holds : FnScope ["word", "first", "second"] ["word", "first", "second"] (fnScope s_law_holds) := ⟨rfl, rfl, rfl, by decide +kernel, rfl, by decide +kernel, by decide +kernel⟩
/-- the two asked -/
def hW : List (Str × List Nat) := [("one", [1, 2]), ("out", [1])]
def holdB (W : List Nat) (b1 b2 : Bool) : Bool := decide (((if b1 = true then 1 else 0) + (if b2 = true then 2 else 0)) ∈ W)
theorem holdB_jf (gA gB W : List Nat) (pr : Nat × Nat) : holdB W (decide (pr.1 ∈ gA)) (decide (pr.2 ∈ gB)) = jf gA gB W pr := by
  unfold holdB jf
  by_cases h1 : pr.1 ∈ gA <;> by_cases h2 : pr.2 ∈ gB <;> simp [h1, h2]
def sp_law_holds : Sp := fun vs H Q _ => ∃ (wd : Str) (W : List Nat) (b1 b2 : Bool), vs = [.str wd, .bl b1, .bl b2] ∧ (wd, W) ∈ hW ∧ Q (.bl (holdB W b1 b2)) H
section
variable {P : Program} {w : World} {K : PySem.W.Frag} {mg : Str → Option Value} {base : Heap} {C : Addr} {r : Er}
set_option maxHeartbeats 4000000 in
theorem ok_law_holds {f : Addr} {fd : FuncData} (F : Def K mg "_law_holds" s_law_holds f fd) (T : Txt K mg C r) (b : Binds K fd ["word", "first", "second"] []) : Cal P w K mg base 1 "_law_holds" (sp_law_holds) [] := by
  refine cal0 F b .nil sc_law_holds (fun vs H Q E h => ?_) (fun cdv A outer s H vs Q E hr h => ?_)
  · obtain ⟨_, _, _, _, rfl, _⟩ := h
    rfl
  · obtain ⟨wd, W, b1, b2, rfl, hwd, k⟩ := h
    refine ⟨_, (pss_cons (ps_if (pt_cmpR op_eq (pv 0) pe_str (nomark _)) (pss_one (ps_ret (pe_cmpR op_ne (pv 1) (pv 2) (nomark _)))) pss_nil)
        (pss_one (ps_ret (pe_and (pv 1) (pe_one (pe_not (pv 2))))))), ?_⟩
    walk_at "go"
    have hne : ("out" : Str) ≠ "one" := by decide +kernel
    simp only [hW, List.mem_cons, List.not_mem_nil, or_false, Prod.mk.injEq] at hwd
    rcases hwd with ⟨rfl, rfl⟩ | ⟨rfl, rfl⟩
    · refine ite_dt rfl ?_
      walk_at "go"
      cases b1 <;> cases b2 <;> exact k
    · refine ite_df hne ?_
      walk_at "go"
      cases b1 <;> walk_at "go" <;> cases b2 <;> exact k
end
abbrev s_law_words : Stmt := top 65
theorem sc_law_words : FnScope ["error", "words"] ["error"] (fnScope s_law_words) := ⟨rfl, rfl, rfl, by decide +kernel, rfl, by decide +kernel, by decide +kernel⟩
def wordsOf (bU : Bool) (z : Str) : List V := [.str "value"] ++ (if bU = true then [.str ("unlike " ++ reprText z)] else [])
def sp_law_words (K : PySem.W.Frag) (r : Er) : Addr → Value → Option Addr → Sp := fun a cls d vs H Q _ => ∃ (E0 : Addr) (bU : Bool) (dd : Addr) (z : Str), vs = [.ref a] ∧ cls = .ref E0 ∧ d = some dd ∧ ErF K r E0 false bU ∧ H dd = some (.xd [("what", .str z)]) ∧ (reprText z).length ≤ 1000 ∧
  ∀ l H', Same H H' → H l = none → H' l = some (.lst (wordsOf bU z)) → Q (.ref l) H'
section
variable {P : Program} {w : World} {K : PySem.W.Frag} {mg : Str → Option Value} {base : Heap} {C : Addr} {r : Er}
set_option maxHeartbeats 4000000 in
theorem ok_law_words {f : Addr} {fd : FuncData} (F : C8.Def K mg "_law_words" s_law_words f fd) (T : Txt K mg C r) (b : Binds K fd ["error"] []) : CalE P w K mg base 1 "_law_words" (sp_law_words K r) := by
  refine ⟨f, fd, ["error"], fnE F.fn sc_law_words (fun _ _ _ vs H Q E h => ?_) (fun cdv A outer s H vs Q E p hr hf h => ?_), F.mgf, F.kp, b⟩
  · obtain ⟨_, _, _, _, rfl, _⟩ := h
    rfl
  · obtain ⟨E0, bU, dd, z, rfl, e1, e2, er, hd, hz, k⟩ := h
    refine ⟨_, (pss_cons (ps_set (i := 1) sc_law_words.nd rfl (by first | exact Or.inl rfl | exact Or.inr rfl) (pe_lst pa_nil))
        (pss_cons (ps_if (pt_val (pe_callB (call_isP (oe := p.2) (List.mem_cons_self ..) er.xc ⟨e1, e2⟩ hf) (by rfl) T.b_isinstance (by decide +kernel) (pa_cons (pv 0) (pa_cons (pe_bltn (v := .ty "ValueError") (u := .type "ValueError") (by rfl) T.b_ValueError (by decide +kernel) rfl) pa_nil)))) (pss_one (ps_expr (bmK K rfl (pe_bm PySem.F.plainAttrs_list PySem.F.slot_list_append PySem.F.type_list_append mt_append (pv 1) (pa_cons pe_str pa_nil))))) pss_nil)
        (C8.pss_cut (ps_if (pt_val (pe_callB (call_isP (oe := p.2) (List.mem_cons_self ..) er.xc ⟨e1, e2⟩ hf) (by rfl) T.b_isinstance (by decide +kernel) (pa_cons (pv 0) (pa_cons (pe_gc (v := .ref r.Unlike) rfl ⟨_, T.mg_Unlike, rfl⟩) pa_nil)))) (pss_one (ps_expr (bmK K rfl (pe_bm PySem.F.plainAttrs_list PySem.F.slot_list_append PySem.F.type_list_append mt_append (pv 1) (pa_cons (pe_op op_add_str pe_str (pe_callB call_repr_str (by rfl) T.b_repr (by decide +kernel) (pa_cons (pe_xp (oe := p.2) (List.mem_cons_self ..) er.xf er.nw ⟨e1, e2⟩ hf (pv 0)) pa_nil))) pa_nil))))) pss_nil)
        (pss_cons (ps_if (pt_val (pe_callB (call_isPT (oe := p.2) (List.mem_cons_self ..) er.xc ⟨e1, e2⟩ hf) (by rfl) T.b_isinstance (by decide +kernel) (pa_cons (pv 0) (pa_cons (pe_tup (pa_cons (pe_gc (v := .ref r.NoName) rfl ⟨_, T.mg_NoName, rfl⟩) (pa_cons (pe_gc (v := .ref r.TooMany) rfl ⟨_, T.mg_TooMany, rfl⟩) (pa_cons (pe_gc (v := .ref r.WrongItem) rfl ⟨_, T.mg_WrongItem, rfl⟩) (pa_cons (pe_gc (v := .ref r.WrongThing) rfl ⟨_, T.mg_WrongThing, rfl⟩) pa_nil))))) pa_nil)))) (pss_one (ps_expr (bmK K rfl (pe_bm PySem.F.plainAttrs_list PySem.F.slot_list_append PySem.F.type_list_append mt_append (pv 1) (pa_cons pe_str pa_nil))))) pss_nil)
        (pss_one (ps_ret (pv 1))))))), ?_⟩
    walk_at "go"
    refine ⟨szl (by show 0 ≤ 16777216; decide), fun L hL => ?_⟩
    walk_at "go"
    have hdL : dd ≠ L := ne_of_none hd hL
    have s0 : Same H (upd H L (.lst [])) := same_laid hL
    have hL1 : (upd H L (.lst [])) L = some (.lst []) := upd_same
    have hd1 := s0 _ _ hd
    generalize upd H L (.lst []) = H1 at *
    refine ⟨_, .type "ValueError", true, _, rfl, hd1, fun u h => h, er.kv, ?_⟩
    walk_at "go"
    refine i_append hL1 (by show 0 < 16777216; decide) ?_
    walk_at "go"
    have s2 : Same H (upd H1 L (.lst ([] ++ [.str "value"]))) := Same.put s0 hL
    have hL2 : (upd H1 L (.lst ([] ++ [.str "value"]))) L = some (.lst [.str "value"]) := upd_same
    generalize upd H1 L (.lst ([] ++ [.str "value"])) = H2 at *
    refine i_cut (fun σ H4 => ∃ x1, σ = [some (.ref p.1), some (.ref L)] ∧ Same H H4 ∧ H4 L = some (.lst (wordsOf bU z)) ∧ x1 = z) ?_ (fun σ H4 hq => ?_)
    · walk_at "go"
      refine ⟨_, .ref r.Unlike, bU, _, rfl, s2 _ _ hd, fun u h => h, er.ku, ?_⟩
      walk_at "go"
      refine iteB (fun hb => ?_) (fun hb => ?_)
      · walk_at "go"
        refine ⟨rfl, _, .str z, s2 _ _ hd, rfl, ?_⟩
        walk_at "go"
        refine ⟨szl (by omega), ?_⟩
        walk_at "go"
        refine ⟨_, _, rfl, rfl, ?_, ?_⟩
        · rw [sizeLine_eq]
          have : ("unlike " : Str).length = 7 := by decide +kernel
          omega
        walk_at "go"
        refine i_append hL2 (by show 1 < 16777216; decide) ?_
        walk_at "go"
        exact ⟨z, rfl, Same.put s2 hL, by rw [upd_same]; unfold wordsOf; rw [if_pos hb], rfl⟩
      · walk_at "go"
        refine ⟨z, rfl, s2, ?_, rfl⟩
        rw [hL2]
        unfold wordsOf
        rw [hb, if_neg Bool.false_ne_true, List.append_nil]
    obtain ⟨x2, rfl, s4, hL4, _⟩ := hq
    walk_at "go"
    refine ⟨szl (by show 4 ≤ 16777216; decide), fun TT hTT => ?_⟩
    have sT : Same _ (upd _ TT (.tup [.ref r.NoName, .ref r.TooMany, .ref r.WrongItem, .ref r.WrongThing])) := same_laid hTT
    walk_at "go"
    refine ⟨TT, [r.NoName, r.TooMany, r.WrongItem, r.WrongThing], false, _, rfl, upd_same, sT _ _ (s4 _ _ hd), er.ko rfl, ?_⟩
    walk_at "go"
    exact k L _ (s4.trans sT) hL (sT _ _ hL4)
end
abbrev s_law_refused : Stmt := top 66
theorem sc_law_refused : FnScope ["one", "other", "told", "turn", "text", "error"] ["one", "other"] (fnScope s_law_refused) := ⟨rfl, rfl, rfl, by decide +kernel, rfl, by decide +kernel, by decide +kernel⟩
def unlikeW : List Str := ["value", "unlike 'alphabet'"]
def sp_law_refused (C : Addr) (r : Er) : Sp := fun vs H Q _ => ∃ (Z : AS) (p q : Addr) (al : List Nat) (rs : Rws) (gd : List Nat) (bl : List Nat) (rs' : Rws) (gd' : List Nat), vs = [.ref p, .ref q] ∧ Rd C Z H p al rs gd ∧ Rd C Z H q bl rs' gd' ∧ AlOk al ∧ WF al.length rs ∧ WF bl.length rs' ∧ al ≠ bl ∧
  ∀ l a b H', Same H H' → H' l = some (.lst [.ref a, .ref b]) → H' a = some (.lst (unlikeW.map V.str)) → H' b = some (.lst (unlikeW.map V.str)) → Q (.ref l) H'
section
variable {P : Program} {w : World} {K : PySem.W.Frag} {mg : Str → Option Value} {base : Heap} {C : Addr} {r : Er}
set_option maxHeartbeats 4000000 in
theorem ok_law_refused {f : Addr} {fd : FuncData} (F : Def K mg "_law_refused" s_law_refused f fd) (T : Txt K mg C r) (b : Binds K fd ["one", "other"] []) (c_parted : CalX P w K mg base 6 "parted" (sp_parted C r)) (c_outside : CalX P w K mg base 6 "outside" (sp_outside C r)) (c_law_words : CalE P w K mg base 1 "_law_words" (sp_law_words K r)) : Cal P w K mg base 7 "_law_refused" (sp_law_refused C r) [] := by
  refine cal0 F b .nil sc_law_refused (fun vs H Q E h => ?_) (fun cdv A outer s H vs Q E hr h => ?_)
  · obtain ⟨_, _, _, _, _, _, _, _, _, rfl, _⟩ := h
    rfl
  · obtain ⟨Z, p, q, al, rs, gd, bl, rs', gd', rfl, hp, hq, ha, hw, hw', hne, k⟩ := h
    refine ⟨_, (pss_cons (ps_set (i := 2) sc_law_refused.nd rfl (by first | exact Or.inl rfl | exact Or.inr rfl) (pe_lst pa_nil))
        (pss_cons (ps_for PassesOwn.never rfl (pi_range1 (by rfl) T.b_range (pa_cons pe_int pa_nil)) (pg_name (i := 3) sc_law_refused.nd rfl (by first | exact Or.inl rfl | exact Or.inr rfl))
        (pss_one (ps_try_as (i := 5) rfl rfl sc_law_refused.nd rfl rfl ⟨rfl, by decide, .inl T.mg_LotsError⟩ takes0 (fun W pn xe tk _ => (pss_cons (ps_set (i := 4) sc_law_refused.nd rfl (by first | exact Or.inl rfl | exact Or.inr rfl) (pe_ifExp (pt_cmpR op_eq (pv 3) pe_int (nomark _)) (pe_cX c_parted hr (by decide) tk rfl (pa_cons (pv 0) (pa_cons (pv 1) pa_nil))) (pe_cX c_outside hr (by decide) tk rfl (pa_cons (pv 0) (pa_cons (pv 1) pa_nil)))))
        (pss_one (ps_expr (bmK K rfl (pe_bm PySem.F.plainAttrs_list PySem.F.slot_list_append PySem.F.type_list_append mt_append (pv 2) (pa_cons (pe_lst (pa_cons (pv 4) pa_nil)) pa_nil)))))))
        (fun a oe cls d pn hz hf => (pss_one (ps_expr (bmK K rfl (pe_bm PySem.F.plainAttrs_list PySem.F.slot_list_append PySem.F.type_list_append mt_append (pv 2) (pa_cons (pe_cE c_law_words (List.mem_cons_self ..) hz hf (roomS hr) (by decide) rfl (pa_cons (pv 5) pa_nil)) pa_nil)))))))))
        (pss_one (ps_ret (pv 2))))), ?_⟩
    walk_at "go"
    refine ⟨by decide, fun T0 hT0 => ?_⟩
    walk_at "go"
    refine ⟨by decide, by decide, ?_⟩
    refine rng0_for (n := 2) (fun i σ H1 => ∃ (x3 x4 : Option V) (ls : List Addr), σ = [some (.ref p), some (.ref q), some (.ref T0), x3, x4, none] ∧ Same H H1 ∧ H1 T0 = some (.lst (ls.map V.ref)) ∧ ls.length = i ∧ ∀ a ∈ ls, H1 a = some (.lst (unlikeW.map V.str)) ∧ a ≠ T0)
      ⟨none, none, [], rfl, same_laid hT0, upd_same, rfl, fun a h => by simp at h⟩ (fun i σ H1 hi hq => ?_) (fun σ H1 hq => ?_)
    · obtain ⟨x3, x4, ls, rfl, s1, hT1, hll, hls⟩ := hq
      walk_at "go"
      refine iteD (fun hx => ?one) (fun hx => ?two)
      case one | two =>
        walk_at "go"
        refine ⟨Z, p, q, al, rs, gd, bl, rs', gd', rfl, hp.same s1, hq.same s1, ha, hw, hw', fun e => absurd e hne, fun _ d H2 s2 hd hx => ?_⟩
        have hT2 := s2 _ _ hT1
        refine ⟨true, T.eU.ex, fun _ a _ => ?_, fun z => by cases z⟩
        walk_at "go"
        refine ⟨r.Unlike, true, d, "alphabet", rfl, rfl, rfl, T.eU, hx, by decide +kernel, fun l H3 s3 hl0 hl1 => ?_⟩
        have hT3 := s3 _ _ hT2
        have hl1 : H3 l = some (.lst (unlikeW.map V.str)) := by
          have wU : wordsOf true "alphabet" = unlikeW.map V.str := by decide +kernel
          rw [hl1, wU]
        walk_at "go"
        refine i_append hT3 (by rw [List.length_map]; omega) ?_
        walk_at "go"
        have hlT : l ≠ T0 := (ne_of_none hT2 hl0).symm
        refine ⟨_, _, ls ++ [l], rfl, Same.put ((s1.trans s2).trans s3) hT0, by rw [upd_same, List.map_append]; rfl, by rw [List.length_append, hll]; rfl, fun b hb => ?_⟩
        rcases List.mem_append.mp hb with hb | hb
        · obtain ⟨h1, h2⟩ := hls b hb
          exact ⟨by rw [upd_ne h2]; exact s3 _ _ (s2 _ _ h1), h2⟩
        · rw [List.mem_singleton.mp hb]
          exact ⟨by rw [upd_ne hlT]; exact hl1, hlT⟩
    · obtain ⟨x3, x4, ls, rfl, s1, hT1, hll, hls⟩ := hq
      walk_at "go"
      match ls, hll with
      | [a, b], _ => exact k T0 a b H1 s1 hT1 (hls a (by simp)).1 (hls b (by simp)).1
end
abbrev s_law_due : Stmt := top 68
theorem sc_law_due : FnScope ["alphabet", "one", "other", "word", "met_v", "level", "k", "later", "text", "p", "q", "t", "pair"] ["alphabet", "one", "other", "word"] (fnScope s_law_due) := ⟨rfl, rfl, rfl, by decide +kernel, rfl, by decide +kernel, by decide +kernel⟩
def stJ (A B : Rws) (x : Nat × Nat) (a : Nat) : Nat × Nat := (stp A x.1 a, stp B x.2 a)
theorem gRun_J (A B : Rws) : ∀ (u : List Nat) (x : Nat × Nat), gRun (stJ A B) x u = (run A x.1 u, run B x.2 u)
  | [], x => rfl
  | a :: u, x => gRun_J A B u (stJ A B x a)
/-- pairs with the words to them, as tuples -/
def LvD (H : Hp) (al : List Nat) (as : List Addr) (l : List ((Nat × Nat) × List Nat)) : Prop := Paired (fun a (p : (Nat × Nat) × List Nat) => H a = some (.tup [.str (SX.S (spl al p.2)), vn p.1.1, vn p.1.2])) as l
theorem LvD.same {H H' : Hp} {al : List Nat} {as : List Addr} {l : List ((Nat × Nat) × List Nat)} (h : LvD H al as l) (s : Same H H') : LvD H' al as l := Paired.mapP h fun a p z => s _ _ z
theorem LvD.upd {H : Hp} {al : List Nat} {as : List Addr} {l : List ((Nat × Nat) × List Nat)} {D : Addr} {o : HO} (h : LvD H al as l) (hn : ∀ vs, H D ≠ some (.tup vs)) : LvD (upd H D o) al as l := Paired.mapP h fun a p z => by rw [upd_ne (fun e => hn _ (e ▸ z))]; exact z
section
variable {m : Nat} {A B : Rws}
theorem gJ_lt (hwA : WFB m A) (hwB : WFB m B) (k : Nat) : ∀ p ∈ gW m (stJ A B) (0, 0) k, p.1.1 < A.length ∧ p.1.2 < B.length := fun p hp => by
  have h : p.1 ∈ gAt (fun x => (List.range m).map (stJ A B x)) (0, 0) k := by
    rw [← gW_map k]
    exact List.mem_map_of_mem hp
  exact g_inv (P := fun x => x.1 < A.length ∧ x.2 < B.length) ⟨hwA.pos, hwB.pos⟩ (fun x hx y hy => by
    obtain ⟨a, ha, rfl⟩ := List.mem_map.mp hy
    exact ⟨hwA.stp_lt hx.1 (List.mem_range.mp ha), hwB.stp_lt hx.2 (List.mem_range.mp ha)⟩) k _ h
theorem gJ_le (hwA : WFB m A) (hwB : WFB m B) (k : Nat) : (gW m (stJ A B) (0, 0) k).length ≤ A.length * B.length := by
  have h := U.pairs_len (prs := (gW m (stJ A B) (0, 0) k).map Prod.fst) (by rw [gW_map k]; exact g_nd k) fun x hx => by
    obtain ⟨p, hp, rfl⟩ := List.mem_map.mp hx
    exact gJ_lt hwA hwB k p hp
  rwa [List.length_map] at h
theorem aJ_lt (hwA : WFB m A) (hwB : WFB m B) {k : Nat} {x : Nat × Nat} {v : List Nat} (hx : x.1 < A.length ∧ x.2 < B.length) : ∀ a, a ≤ m → ∀ p ∈ addsW (stJ A B) x v (gW m (stJ A B) (0, 0) k) a, p.1.1 < A.length ∧ p.1.2 < B.length
  | 0, _, p, hp => gJ_lt hwA hwB k p hp
  | a + 1, ha, p, hp => by
    rw [addsW_succ] at hp
    unfold addW at hp
    split at hp
    · exact aJ_lt hwA hwB hx a (by omega) p hp
    · rcases List.mem_append.mp hp with hp | hp
      · exact aJ_lt hwA hwB hx a (by omega) p hp
      · rw [List.mem_singleton.mp hp]
        exact ⟨hwA.stp_lt hx.1 (by omega), hwB.stp_lt hx.2 (by omega)⟩
theorem aJ_le (hwA : WFB m A) (hwB : WFB m B) {k : Nat} {x : Nat × Nat} {v : List Nat} (hx : x.1 < A.length ∧ x.2 < B.length) {a : Nat} (ha : a ≤ m) : (addsW (stJ A B) x v (gW m (stJ A B) (0, 0) k) a).length ≤ A.length * B.length := by
  have h := U.pairs_len (prs := (addsW (stJ A B) x v (gW m (stJ A B) (0, 0) k) a).map Prod.fst) (by rw [addsW_map]; exact nd_addsN (by rw [gW_map k]; exact g_nd k)) fun y hy => by
    obtain ⟨p, hp, rfl⟩ := List.mem_map.mp hy
    exact aJ_lt hwA hwB hx a ha p hp
  rwa [List.length_map] at h
theorem gJ_wl (hm : 0 < m) {k : Nat} (hq : ∀ q, q < k → q < (gW m (stJ A B) (0, 0) q).length) {p : (Nat × Nat) × List Nat} (hp : (gW m (stJ A B) (0, 0) k)[k]? = some p) : p.2.length ≤ k := (gW_ok hm k hq p hp).1.lg _ _ hp
end
def sp_law_due : Sp := fun vs H Q _ => ∃ (Z : AS) (al : List Nat) (p q : Addr) (A : Rws) (gA : List Nat) (B : Rws) (gB : List Nat) (wd : Str) (W : List Nat), vs = [.str (SX.S al), .ref p, .ref q, .str wd] ∧ (wd, W) ∈ hW ∧ Mach Z H p A gA ∧ Mach Z H q B gB ∧ AlOk al ∧ WF al.length A ∧ WF al.length B ∧
  ∀ res H', Same H H' → LeastW al.length (fun u => jf gA gB W (run A 0 u, run B 0 u) = true) res → (∀ w, res = some w → w.length ≤ 4000) → Q (txtO al res) H'
section
variable {P : Program} {w : World} {K : PySem.W.Frag} {mg : Str → Option Value} {base : Heap} {C : Addr} {r : Er}
set_option maxHeartbeats 4000000 in
theorem ok_law_due {f : Addr} {fd : FuncData} (F : Def K mg "_law_due" s_law_due f fd) (T : Txt K mg C r) (b : Binds K fd ["alphabet", "one", "other", "word"] []) (c_law_holds : Cal P w K mg base 1 "_law_holds" sp_law_holds []) : Cal P w K mg base 2 "_law_due" (sp_law_due) [] := by
  refine cal0 F b .nil sc_law_due (fun vs H Q E h => ?_) (fun cdv A outer s H vs Q E hr h => ?_)
  · obtain ⟨_, _, _, _, _, _, _, _, _, _, rfl, _⟩ := h
    rfl
  · obtain ⟨Z, al, p, q, A, gA, B, gB, wd, W, rfl, hwd, hp, hq, ha, hwA, hwB, k⟩ := h
    refine ⟨_, (pss_cons (ps_set (i := 4) sc_law_due.nd rfl (by first | exact Or.inl rfl | exact Or.inr rfl) (pe_disp1N hr.units (pe_tup (pa_cons pe_int (pa_cons pe_int pa_nil))) pe_bl))
        (pss_cons (ps_set (i := 5) sc_law_due.nd rfl (by first | exact Or.inl rfl | exact Or.inr rfl) (pe_lst (pa_cons (pe_tup (pa_cons pe_str (pa_cons pe_int (pa_cons pe_int pa_nil)))) pa_nil)))
        (pss_cons (ps_for PassesOwn.never rfl (pi_range1 (by rfl) T.b_range (pa_cons (pe_op op_add (pe_op op_mul (pe_callB (lenK K rfl) (by rfl) T.b_len (by decide +kernel) (pa_cons (pe_ix (ixK K rfl) (pv 1) pe_int (fun _ _ => rfl)) pa_nil)) (pe_callB (lenK K rfl) (by rfl) T.b_len (by decide +kernel) (pa_cons (pe_ix (ixK K rfl) (pv 2) pe_int (fun _ _ => rfl)) pa_nil))) pe_int) pa_nil)) (pg_name (i := 6) sc_law_due.nd rfl (by first | exact Or.inl rfl | exact Or.inr rfl))
        (pss_cons (ps_set (i := 7) sc_law_due.nd rfl (by first | exact Or.inl rfl | exact Or.inr rfl) (pe_lst pa_nil))
        (pss_cons (ps_for PassesOwn.never rfl (seqK K rfl (pv 5)) (pg_tup rfl (pgs_cons (pg_name (i := 8) sc_law_due.nd rfl (by first | exact Or.inl rfl | exact Or.inr rfl)) (pgs_cons (pg_name (i := 9) sc_law_due.nd rfl (by first | exact Or.inl rfl | exact Or.inr rfl)) (pgs_cons (pg_name (i := 10) sc_law_due.nd rfl (by first | exact Or.inl rfl | exact Or.inr rfl)) pgs_nil))))
        (pss_cons (ps_if (pt_val (pe_c c_law_holds hr (by decide) rfl (pa_cons (pv 3) (pa_cons (pe_cmpR (inK K rfl) (pv 9) (pe_ix (ixK K rfl) (pv 1) pe_int (fun _ _ => rfl)) rfl) (pa_cons (pe_cmpR (inK K rfl) (pv 10) (pe_ix (ixK K rfl) (pv 2) pe_int (fun _ _ => rfl)) rfl) pa_nil))))) (pss_one (ps_ret (pv 8))) pss_nil)
        (pss_one (ps_for PassesOwn.never rfl (pi_range1 (by rfl) T.b_range (pa_cons (pe_callB (lenK K rfl) (by rfl) T.b_len (by decide +kernel) (pa_cons (pv 0) pa_nil)) pa_nil)) (pg_name (i := 11) sc_law_due.nd rfl (by first | exact Or.inl rfl | exact Or.inr rfl))
        (pss_cons (ps_set (i := 12) sc_law_due.nd rfl (by first | exact Or.inl rfl | exact Or.inr rfl) (pe_tup (pa_cons (pe_ix (ixK K rfl) (pe_ix (ixK K rfl) (pe_ix (ixK K rfl) (pv 1) pe_int (fun _ _ => rfl)) (pv 9) (fun _ _ => rfl)) (pv 11) (fun _ _ => rfl)) (pa_cons (pe_ix (ixK K rfl) (pe_ix (ixK K rfl) (pe_ix (ixK K rfl) (pv 2) pe_int (fun _ _ => rfl)) (pv 10) (fun _ _ => rfl)) (pv 11) (fun _ _ => rfl)) pa_nil))))
        (pss_one (ps_if (pt_cmp (pc_nnotin hr.units (pv 12) (pv 4))) (pss_cons (ps_nput hr.units (pv 4) (pv 12) pe_bl rfl)
        (pss_one (ps_expr (bmK K rfl (pe_bm PySem.F.plainAttrs_list PySem.F.slot_list_append PySem.F.type_list_append mt_append (pv 7) (pa_cons (pe_tup (pa_cons (pe_op op_add_str (pv 8) (pe_ix (ixK K rfl) (pv 0) (pv 11) (fun _ _ => rfl))) (pa_cons (pe_ix (ixK K rfl) (pv 12) pe_int (fun _ _ => rfl)) (pa_cons (pe_ix (ixK K rfl) (pv 12) pe_int (fun _ _ => rfl)) pa_nil)))) pa_nil)))))) pss_nil)))))))
        (pss_cons (ps_set (i := 5) sc_law_due.nd rfl (by first | exact Or.inl rfl | exact Or.inr rfl) (pe_callTy (listK K rfl) (by rfl) T.b_list (by decide +kernel) (pa_cons (pv 7) pa_nil)))
        (pss_one (ps_if (pt_cmpR op_eq (pe_callB (lenK K rfl) (by rfl) T.b_len (by decide +kernel) (pa_cons (pv 5) pa_nil)) pe_int (nomark _)) (pss_one (ps_ret pe_non)) pss_nil))))))
        (pss_one (ps_ret pe_non))))), ?_⟩
    walk_at "go"
    obtain ⟨hpZ, am, ag, ha1, ha2, ha3⟩ := id hp
    obtain ⟨_, tga, hag⟩ := id ha3
    obtain ⟨hqZ, bm, bg, hb1, hb2, hb3⟩ := id hq
    obtain ⟨_, tgb, hbg⟩ := id hb3
    obtain ⟨tma, vma, hma, hmal⟩ := ha2.len
    obtain ⟨tmb, vmb, hmb, hmbl⟩ := hb2.len
    have hleA := hwA.le
    have hleB := hwB.le
    have hmp := ha.pos
    have hnm : A.length * B.length ≤ 3600 := Nat.mul_le_mul hleA hleB
    have hla : (SX.S al).length = al.length := SX.S_len al
    have hal3 := ha.le
    have hLang : ∀ r, LeastW al.length (fun u => jf gA gB W (gRun (stJ A B) (0, 0) u) = true) r → LeastW al.length (fun u => jf gA gB W (run A 0 u, run B 0 u) = true) r := fun r h => h.congr fun u _ => by rw [gRun_J]
    refine RDispN fun M oM hM nM => ?_
    walk_at "go"
    refine ⟨sz2, fun T0 hT0 => ?_⟩
    have hTM : T0 ≠ M := nM.old.elim fun o e => (ne_of_none e hT0).symm
    have hT02 : H T0 = none := by
      rw [upd_ne hTM] at hT0
      exact hT0
    walk_at "go"
    have n1 := nM.same (same_laid (o := .tup [.int (0 : Int), .int (0 : Int)]) hT0)
    refine ⟨pk (0, 0), keyP (a := 0) (b := 0) upd_same, n1, fun o' n2 => ?_⟩
    have s3 : Same H (upd (upd (upd H M oM) T0 (.tup [.int (0 : Int), .int (0 : Int)])) M o') := Same.put (Same.put (same_laid hM) hT02) hM
    have n2 : NDict P w (upd (upd (upd H M oM) T0 (.tup [.int (0 : Int), .int (0 : Int)])) M o') M [(pk (0, 0), V.bl true)] := n2
    generalize upd (upd (upd H M oM) T0 (.tup [.int (0 : Int), .int (0 : Int)])) M o' = H3 at *
    walk_at "go"
    refine ⟨sz3, fun T1 hT1 => ?_⟩
    walk_at "go"
    refine ⟨sz1, fun L0 hL0 => ?_⟩
    have s4 : Same H3 (upd (upd H3 T1 (.tup [.str "", .int (0 : Int), .int (0 : Int)])) L0 (.lst [.ref T1])) := (same_laid hT1).trans (same_laid hL0)
    have n4 := n2.same s4
    have hL4 : (upd (upd H3 T1 (.tup [.str "", .int (0 : Int), .int (0 : Int)])) L0 (.lst [.ref T1])) L0 = some (.lst ([T1].map V.ref)) := upd_same
    have hLv4 : LvD (upd (upd H3 T1 (.tup [.str "", .int (0 : Int), .int (0 : Int)])) L0 (.lst [.ref T1])) al [T1] ((gW al.length (stJ A B) (0, 0) 0).drop 0) := .cons (by rw [upd_ne (ne_of_none upd_same hL0), upd_same]; rfl) .nil
    have s04 := s3.trans s4
    generalize upd (upd H3 T1 (.tup [.str "", .int (0 : Int), .int (0 : Int)])) L0 (.lst [.ref T1]) = H4 at *
    have ha14 := s04 _ _ ha1
    have hb14 := s04 _ _ hb1
    have hma4 := s04 _ _ hma
    have hmb4 := s04 _ _ hmb
    walk_at "go"
    refine i_lenQ hma4 ?_
    walk_at "go"
    refine i_lenQ hmb4 ?_
    rw [hmal, hmbl]
    walk_at "go"
    rw [show ((A.length : Int) * (B.length : Int) + 1) = ((A.length * B.length + 1 : Nat) : Int) by rw [Int.natCast_add, Int.natCast_mul]; rfl]
    refine ⟨by omega, by omega, ?_⟩
    rw [Int.toNat_natCast]
    refine rng0_for (fun k σ H5 => ∃ (i : Nat) (Lv : Addr) (as : List Addr) (x6 x7 x8 x9 x10 x11 x12 : Option V), k ≤ i ∧ (∀ q, q < i → q < (gW al.length (stJ A B) (0, 0) q).length) ∧ i < (gW al.length (stJ A B) (0, 0) i).length ∧ (∀ q, q < i → ∀ y v, (gW al.length (stJ A B) (0, 0) i)[q]? = some (y, v) → jf gA gB W y = false) ∧ σ = [some (.str (SX.S al)), some (.ref p), some (.ref q), some (.str wd), some (.ref M), some (.ref Lv), x6, x7, x8, x9, x10, x11, x12] ∧ Same H H5 ∧ NDict P w H5 M (mapN (((gW al.length (stJ A B) (0, 0) i).map Prod.fst).map pk) fun _ => .bl true) ∧ H5 Lv = some (.lst (as.map V.ref)) ∧ LvD H5 al as ((gW al.length (stJ A B) (0, 0) i).drop i))
      ⟨0, L0, [T1], none, none, none, none, none, none, none, Nat.le_refl _, fun q h => absurd h (Nat.not_lt_zero q), by show 0 < 1; decide, fun q h => absurd h (Nat.not_lt_zero q), rfl, s04, n4, hL4, hLv4⟩ (fun k0 σ H5 hk0 hz => ?_) (fun σ H5 hz => ?_)
    · obtain ⟨i, Lv, as, x6, x7, x8, x9, x10, x11, x12, hki, hok, hil, hno, rfl, s5, n5, hL5, hLv5⟩ := hz
      have hasl : as.length = (gW al.length (stJ A B) (0, 0) i).length - i := by rw [hLv5.length, List.length_drop]
      have hgl := gJ_le hwA.b hwB.b i
      walk_at "go"
      refine ⟨by decide, fun R hR => ?_⟩
      have sR : Same H5 (upd H5 R (.lst [])) := same_laid hR
      have s6 := s5.trans sR
      have n6 := n5.same sR
      have hL6 := sR _ _ hL5
      have hLv6 := hLv5.same sR
      have hRH : H R = none := same_free s5 hR
      have hR6 : (upd H5 R (.lst [])) R = some (.lst (([] : List Addr).map V.ref)) := upd_same
      have hRL : R ≠ Lv := (ne_of_none hL5 hR).symm
      have hMR : M ≠ R := n5.old.elim fun o e => ne_of_none e hR
      generalize upd H5 R (.lst []) = H6 at *
      walk_at "go"
      refine seq_for (t := false) hL6 (fun t σ H7 => ∃ (x8 x9 x10 x11 x12 : Option V) (rs : List Addr), σ = [some (.str (SX.S al)), some (.ref p), some (.ref q), some (.str wd), some (.ref M), some (.ref Lv), some (vn k0), some (.ref R), x8, x9, x10, x11, x12] ∧ Same H H7 ∧ NDict P w H7 M (mapN (((gW al.length (stJ A B) (0, 0) (i + t)).map Prod.fst).map pk) fun _ => .bl true) ∧ H7 R = some (.lst (rs.map V.ref)) ∧ LvD H7 al rs ((gW al.length (stJ A B) (0, 0) (i + t)).drop (gW al.length (stJ A B) (0, 0) i).length) ∧ H7 Lv = some (.lst (as.map V.ref)) ∧ LvD H7 al as ((gW al.length (stJ A B) (0, 0) i).drop i) ∧ (∀ q, q < i + t → ∀ y v, (gW al.length (stJ A B) (0, 0) (i + t))[q]? = some (y, v) → jf gA gB W y = false) ∧ ∀ q, q < i + t → q < (gW al.length (stJ A B) (0, 0) q).length)
        ⟨x8, x9, x10, x11, x12, [], rfl, s6, n6, hR6, by rw [Nat.add_zero, List.drop_length]; exact .nil, hL6, hLv6, hno, hok⟩ (fun t σ H7 _ ⟨_, _, _, _, _, _, _, _, _, _, _, h, _⟩ => h) (fun t v σ H7 hv hq => ?_) (fun σ H7 hq => ?_)
      · obtain ⟨y8, y9, y10, y11, y12, rs, rfl, s7, n7, hR7, hLr7, hL7, hLv7, hno7, hok7⟩ := hq
        obtain ⟨b, hb, rfl⟩ := at_map hv
        obtain ⟨⟨⟨xa, xb⟩, v⟩, hit, hbt⟩ := Paired.at0 hLv7 hb
        rw [List.getElem?_drop] at hit
        have hit2 := gW_up hit (Nat.le_add_right i t)
        obtain ⟨hra, hrb⟩ := gJ_lt hwA.b hwB.b _ _ (List.mem_of_getElem? hit)
        have hra : xa < A.length := hra
        have hrb : xb < B.length := hrb
        have htl : i + t < (gW al.length (stJ A B) (0, 0) (i + t)).length := (List.getElem?_eq_some_iff.mp hit2).1
        have hvl : v.length ≤ i + t := gJ_wl hmp hok7 hit2
        have hgl7 := gJ_le hwA.b hwB.b (i + t)
        obtain ⟨zz, hzz⟩ := gW_mono (m := al.length) (st := stJ A B) (s := (0, 0)) i t
        have hj0 : (gW al.length (stJ A B) (0, 0) i).length ≤ (gW al.length (stJ A B) (0, 0) (i + t)).length := by rw [hzz, List.length_append]; omega
        have hag7 := s7 _ _ hag
        have hbg7 := s7 _ _ hbg
        have ha17 := s7 _ _ ha1
        have hb17 := s7 _ _ hb1
        have hbt : H7 b = some (.tup [.str (SX.S (spl al v)), vn xa, vn xb]) := hbt
        walk_at "go"
        refine i_inI hag7 ?_
        walk_at "go"
        refine i_inI hbg7 ?_
        walk_at "go"
        refine ⟨wd, W, _, _, rfl, hwd, ?_⟩
        rw [holdB_jf gA gB W (xa, xb)]
        walk_at "go"
        refine iteB (fun hh => ?_) (fun hh => ?_)
        · walk_at "go"
          exact k (some v) H7 s7 (hLang _ (gW_least hmp hok7 hit2 hh hno7)) fun w e => by cases e; omega
        · walk_at "go"
          refine i_lenS (szl (by omega)) ?_
          walk_at "go"
          refine ⟨by omega, by omega, ?_⟩
          rw [Int.toNat_natCast, hla]
          refine rng0_for (fun a σ H8 => ∃ (x11 x12 : Option V) (rs : List Addr), σ = [some (.str (SX.S al)), some (.ref p), some (.ref q), some (.str wd), some (.ref M), some (.ref Lv), some (vn k0), some (.ref R), some (.str (SX.S (spl al v))), some (vn xa), some (vn xb), x11, x12] ∧ Same H H8 ∧ NDict P w H8 M (mapN (((addsW (stJ A B) (xa, xb) v (gW al.length (stJ A B) (0, 0) (i + t)) a).map Prod.fst).map pk) fun _ => .bl true) ∧ H8 R = some (.lst (rs.map V.ref)) ∧ LvD H8 al rs ((addsW (stJ A B) (xa, xb) v (gW al.length (stJ A B) (0, 0) (i + t)) a).drop (gW al.length (stJ A B) (0, 0) i).length) ∧ H8 Lv = some (.lst (as.map V.ref)) ∧ LvD H8 al as ((gW al.length (stJ A B) (0, 0) i).drop i))
            ⟨y11, y12, rs, rfl, s7, n7, hR7, hLr7, hL7, hLv7⟩ (fun a σ H8 ham hq => ?_) (fun σ H8 hq => ?_)
          · obtain ⟨z11, z12, rs, rfl, s8, n8, hR8, hLr8, hL8, hLv8⟩ := hq
            have hal := aJ_le hwA.b hwB.b (k := i + t) (x := (xa, xb)) (v := v) ⟨hra, hrb⟩ (show a ≤ al.length by omega)
            obtain ⟨tr, vr, ar, hr1, hr2, hr3, hr4, tr5, hr6⟩ := (ha2.same s8).at hra
            obtain ⟨tr', vr', ar', hr1', hr2', hr3', hr4', tr5', hr6'⟩ := (hb2.same s8).at hrb
            have ha18 := s8 _ _ ha1
            have hb18 := s8 _ _ hb1
            walk_at "go"
            refine i_ixQ hr1 hr3 ?_
            walk_at "go"
            refine i_ixQ hr6 (vn_at (hwA.stp_at hra ham)) ?_
            walk_at "go"
            refine i_ixQ hr1' hr3' ?_
            walk_at "go"
            refine i_ixQ hr6' (vn_at (hwB.stp_at hrb ham)) ?_
            walk_at "go"
            refine ⟨sz2, fun PT hPT => ?_⟩
            walk_at "go"
            have hsj : stJ A B (xa, xb) a = (stp A xa a, stp B xb a) := rfl
            generalize hsa : stp A xa a = na at *
            generalize hsb : stp B xb a = nb at *
            generalize hl : addsW (stJ A B) (xa, xb) v (gW al.length (stJ A B) (0, 0) (i + t)) a = l at *
            have hnx : addsW (stJ A B) (xa, xb) v (gW al.length (stJ A B) (0, 0) (i + t)) (a + 1) = addW (stJ A B) (xa, xb) v l a := by rw [addsW_succ, hl]
            have sP : Same H8 (upd H8 PT (.tup [.int (na : Int), .int (nb : Int)])) := same_laid hPT
            have s9 := s8.trans sP
            have n9 := n8.same sP
            have hR9 := sP _ _ hR8
            have hLr9 := hLr8.same sP
            have hL9 := sP _ _ hL8
            have hLv9 := hLv8.same sP
            have hT9 : (upd H8 PT (.tup [.int (na : Int), .int (nb : Int)])) PT = some (.tup [.int (na : Int), .int (nb : Int)]) := upd_same
            generalize upd H8 PT (.tup [.int (na : Int), .int (nb : Int)]) = H9 at *
            have ky : KeyAt H9 (pk (na, nb)) (.ref PT) := keyP hT9
            refine r_nnotin n9 ky ?_
            walk_at "go"
            by_cases hin : (na, nb) ∈ l.map Prod.fst
            · rw [lookN_in (pk_mem.mpr hin)]
              refine iteNT ?_
              walk_at "go"
              rw [hnx, addW, hsj, if_pos hin]
              exact ⟨_, _, rs, rfl, s9, n9, hR9, hLr9, hL9, hLv9⟩
            · have hnk : pk (na, nb) ∉ (l.map Prod.fst).map pk := fun z => hin (pk_mem.mp z)
              rw [lookN_no hnk]
              refine iteNF ?_
              walk_at "go"
              refine r_nput n9 ky (by rw [mapN_len, List.length_map, List.length_map]; omega) (fun o n10 => ?_)
              rw [putN_mapN hnk rfl] at n10
              have hML : M ≠ Lv := n9.notlst hL9
              have hPM : PT ≠ M := fun e => n9.nottup _ (by rw [← e]; exact hT9)
              have sM : Same H (upd H9 M o) := Same.put s9 hM
              have hR10 : (upd H9 M o) R = some (.lst (rs.map V.ref)) := by rw [upd_ne hMR.symm]; exact hR9
              have hL10 : (upd H9 M o) Lv = some (.lst (as.map V.ref)) := by rw [upd_ne hML.symm]; exact hL9
              have hT10 : (upd H9 M o) PT = some (.tup [.int (na : Int), .int (nb : Int)]) := by rw [upd_ne hPM]; exact hT9
              have hLr10 := hLr9.upd (o := o) n9.nottup
              have hLv10 := hLv9.upd (o := o) n9.nottup
              generalize upd H9 M o = H10 at *
              have hcc : al[a]? = some (al.getD a 0) := by
                rw [List.getD_eq_getElem?_getD, List.getElem?_eq_getElem ham]
                rfl
              walk_at "go"
              refine i_ixS (szl (by omega)) (S_at hcc) ?_
              have hz1 : (SX.S (spl al v)).length = v.length := by rw [SX.S_len, spl_len]
              have hz2 : (⟨#[al.getD a 0]⟩ : Str).length = 1 := rfl
              refine ⟨_, _, rfl, rfl, by rw [sizeLine_eq]; omega, ?_⟩
              rw [spl_snoc]
              walk_at "go"
              refine ⟨sz3, fun TT hTT => ?_⟩
              have sT : Same H10 (upd H10 TT (.tup [.str (SX.S (spl al (v ++ [a]))), .int (na : Int), .int (nb : Int)])) := same_laid hTT
              have s11 := sM.trans sT
              have n11 := n10.same sT
              have hR11 := sT _ _ hR10
              have hL11 := sT _ _ hL10
              have hLr11 := hLr10.same sT
              have hLv11 := hLv10.same sT
              have hT11 : (upd H10 TT (.tup [.str (SX.S (spl al (v ++ [a]))), .int (na : Int), .int (nb : Int)])) TT = some (.tup [.str (SX.S (spl al (v ++ [a]))), vn na, vn nb]) := upd_same
              generalize upd H10 TT (.tup [.str (SX.S (spl al (v ++ [a]))), .int (na : Int), .int (nb : Int)]) = H11 at *
              walk_at "go"
              have hrl : rs.length ≤ 3600 := by
                have := hLr11.length
                rw [List.length_drop] at this
                omega
              refine i_append hR11 (by rw [List.length_map]; omega) ?_
              walk_at "go"
              have hRt : ∀ vs, H11 R ≠ some (.tup vs) := by
                intro vs
                rw [hR11]
                intro z
                cases z
              have hTR : TT ≠ R := fun e => hRt _ (by rw [← e]; exact hT11)
              have hnew : addW (stJ A B) (xa, xb) v l a = l ++ [((na, nb), v ++ [a])] := by rw [addW, hsj, if_neg hin]
              rw [hnx, hnew]
              refine ⟨_, _, rs ++ [TT], rfl, Same.put s11 hRH, ?_, by rw [upd_same, List.map_append]; rfl, ?_, by rw [upd_ne hRL.symm]; exact hL11, hLv11.upd hRt⟩
              · rw [List.map_append, List.map_append]
                exact n11.upd hMR hRt
              · rw [List.drop_append_of_le_length (by
                  obtain ⟨z2, hz2⟩ := addsW_pre (stJ A B) (xa, xb) v (gW al.length (stJ A B) (0, 0) (i + t)) a
                  rw [← hl, hz2, List.length_append]
                  omega)]
                exact U.Paired.snoc (hLr11.upd hRt) (by rw [upd_ne hTR]; exact hT11)
          · obtain ⟨z11, z12, rs, rfl, s8, n8, hR8, hLr8, hL8, hLv8⟩ := hq
            rw [show i + (t + 1) = (i + t) + 1 from rfl, gW_at hit2]
            obtain ⟨z3, hz3⟩ := addsW_pre (stJ A B) (xa, xb) v (gW al.length (stJ A B) (0, 0) (i + t)) al.length
            refine ⟨_, _, _, _, _, rs, rfl, s8, n8, hR8, hLr8, hL8, hLv8, fun q hq y u hy => ?_, fun q hq => ?_⟩
            · rw [hz3, List.getElem?_append_left (by omega)] at hy
              rcases Nat.lt_or_ge q (i + t) with z | z
              · exact hno7 q z y u hy
              · have : q = i + t := by omega
                rw [this, hit2] at hy
                cases hy
                exact hh
            · rcases Nat.lt_or_ge q (i + t) with z | z
              · exact hok7 q z
              · have : q = i + t := by omega
                rw [this]
                exact htl
      · obtain ⟨y8, y9, y10, y11, y12, rs, rfl, s7, n7, hR7, hLr7, hL7, hLv7, hno7, hok7⟩ := hq
        have hit : i + (as.map V.ref).length = (gW al.length (stJ A B) (0, 0) i).length := by rw [List.length_map, hasl]; omega
        rw [hit] at n7 hLr7 hno7 hok7
        walk_at "go"
        refine i_listOf (t := false) hR7 (fun l hl => ?_)
        walk_at "go"
        have sl : Same H7 (upd H7 l (.lst (rs.map V.ref))) := same_laid hl
        have hl8 : (upd H7 l (.lst (rs.map V.ref))) l = some (.lst (rs.map V.ref)) := upd_same
        have n8 := n7.same sl
        have hLr8 := hLr7.same sl
        have s8 := s7.trans sl
        generalize (upd H7 l (.lst (rs.map V.ref))) = H8 at *
        walk_at "go"
        rw [List.length_map]
        obtain ⟨zz, hzz⟩ := gW_mono (m := al.length) (st := stJ A B) (s := (0, 0)) i ((gW al.length (stJ A B) (0, 0) i).length - i)
        rw [show i + ((gW al.length (stJ A B) (0, 0) i).length - i) = (gW al.length (stJ A B) (0, 0) i).length by omega] at hzz
        have hjl : (gW al.length (stJ A B) (0, 0) i).length ≤ (gW al.length (stJ A B) (0, 0) (gW al.length (stJ A B) (0, 0) i).length).length := by
          rw [hzz, List.length_append]
          omega
        have hrsl := hLr8.length
        rw [List.length_drop] at hrsl
        refine iteD (fun hx => ?_) (fun hx => ?_)
        · walk_at "go"
          refine k none H8 s8 (hLang _ (gW_none (k := (gW al.length (stJ A B) (0, 0) i).length) ⟨?_, fun q hq => ?_⟩ fun pv hpv => ?_)) fun w e => by cases e
          · rw [← gW_len]
            omega
          · rw [← gW_len]
            exact hok7 q hq
          · obtain ⟨q, hq⟩ := List.mem_iff_getElem?.mp hpv
            have hql := (List.getElem?_eq_some_iff.mp hq).1
            exact hno7 q (by omega) pv.1 pv.2 hq
        · walk_at "go"
          exact ⟨(gW al.length (stJ A B) (0, 0) i).length, l, rs, _, _, _, _, _, _, _, by omega, hok7, by omega, hno7, rfl, s8, n8, hl8, hLr8⟩
    · obtain ⟨i, Lv, as, x6, x7, x8, x9, x10, x11, x12, hki, hok, hil, hno, rfl, s5, n5, hL5, hLv5⟩ := hz
      have hgl := gJ_le hwA.b hwB.b i
      omega
end
abbrev s_law_short : Stmt := top 69
theorem sc_law_short : FnScope ["alphabet", "one", "other", "word", "told", "most", "text"] ["alphabet", "one", "other", "word", "told"] (fnScope s_law_short) := ⟨rfl, rfl, rfl, by decide +kernel, rfl, by decide +kernel, by decide +kernel⟩
theorem i_eqTO {al : List Nat} {w : List Nat} {res : Option (List Nat)} {H : Hp} {Q : VK} (nd : al.Nodup) (ow : Ok al.length w) (ou : ∀ u, res = some u → Ok al.length u) (q : Q (.bl (decide (res = some w))) H) : rEq (.str (SX.S (spl al w))) (txtO al res) H Q := by
  cases res with
  | none =>
    refine ⟨rfl, ?_⟩
    have e : decide (V.str (SX.S (spl al w)) = txtO al none) = decide ((none : Option (List Nat)) = some w) := by
      rw [decide_eq_false (by intro z; cases z), decide_eq_false (by intro z; cases z)]
    rw [e]
    exact q
  | some u =>
    refine ⟨rfl, ?_⟩
    have e : decide (V.str (SX.S (spl al w)) = txtO al (some u)) = decide (some u = some w) := by
      by_cases h : u = w
      · rw [h, decide_eq_true rfl]
        exact decide_eq_true (show V.str (SX.S (spl al w)) = txtO al (some w) from rfl)
      · rw [decide_eq_false, decide_eq_false (fun z => h (Option.some.inj z))]
        intro z
        have z : V.str (SX.S (spl al w)) = V.str (SX.S (spl al u)) := z
        injection z with z
        exact h (spl_inj nd (ou u rfl) ow (SX_inj z).symm)
    rw [e]
    exact q
theorem i_neTO {al : List Nat} {res : Option (List Nat)} {H : Hp} {Q : VK} (q : Q (.bl false) H) : rNe (txtO al res) (txtO al res) H Q := by
  cases res with
  | none => exact ⟨rfl, by rw [decide_eq_true rfl]; exact q⟩
  | some u => exact ⟨rfl, by rw [decide_eq_true rfl]; exact q⟩
theorem lw_okr {m : Nat} {P : List Nat → Prop} {r : Option (List Nat)} (h : LeastW m P r) : ∀ u, r = some u → Ok m u ∧ P u := fun u e => by
  subst e
  rcases h with ⟨z, _⟩ | ⟨w, z, ow, pw, _⟩
  · cases z
  · cases z
    exact ⟨ow, pw⟩
def sp_law_short : Sp := fun vs H Q _ => ∃ (Z : AS) (al : List Nat) (p q : Addr) (A : Rws) (gA : List Nat) (B : Rws) (gB : List Nat) (wd : Str) (W : List Nat) (res : Option (List Nat)), vs = [.str (SX.S al), .ref p, .ref q, .str wd, txtO al res] ∧ (wd, W) ∈ hW ∧ Mach Z H p A gA ∧ Mach Z H q B gB ∧ AlOk al ∧ WF al.length A ∧ WF al.length B ∧
  LeastW al.length (fun u => jf gA gB W (run A 0 u, run B 0 u) = true) res ∧ (∀ w, res = some w → w.length ≤ 4000) ∧ ∀ H', Same H H' → Q (.bl true) H'
section
variable {P : Program} {w : World} {K : PySem.W.Frag} {mg : Str → Option Value} {base : Heap} {C : Addr} {r : Er}
set_option maxHeartbeats 4000000 in
theorem ok_law_short {f : Addr} {fd : FuncData} (F : Def K mg "_law_short" s_law_short f fd) (T : Txt K mg C r) (b : Binds K fd ["alphabet", "one", "other", "word", "told"] []) (c_law_texts : Cal P w K mg base 1 "_law_texts" sp_law_texts []) (c_law_holds : Cal P w K mg base 1 "_law_holds" sp_law_holds []) (c_law_within : Cal P w K mg base 2 "_law_within" sp_law_within []) : Cal P w K mg base 3 "_law_short" (sp_law_short) [] := by
  refine cal0 F b .nil sc_law_short (fun vs H Q E h => ?_) (fun cdv A outer s H vs Q E hr h => ?_)
  · obtain ⟨_, _, _, _, _, _, _, _, _, _, _, rfl, _⟩ := h
    rfl
  · obtain ⟨Z, al, p, q, A, gA, B, gB, wd, W, res, rfl, hwd, hp, hq, ha, hwA, hwB, hLe, hrl, k⟩ := h
    refine ⟨_, (C8.pss_cut (ps_set (i := 5) sc_law_short.nd rfl (by first | exact Or.inl rfl | exact Or.inr rfl) (pe_ifExp (pt_cmpR op_eq (pe_callB (lenK K rfl) (by rfl) T.b_len (by decide +kernel) (pa_cons (pv 0) pa_nil)) pe_int (nomark _)) pe_int pe_int))
        (pss_cons (ps_for PassesOwn.never rfl (seqK K rfl (pe_c c_law_texts hr (by decide) rfl (pa_cons (pv 0) (pa_cons (pv 5) pa_nil)))) (pg_name (i := 6) sc_law_short.nd rfl (by first | exact Or.inl rfl | exact Or.inr rfl))
        (pss_cons (ps_if (pt_val (pe_c c_law_holds hr (by decide) rfl (pa_cons (pv 3) (pa_cons (pe_c c_law_within hr (by decide) rfl (pa_cons (pv 0) (pa_cons (pv 1) (pa_cons (pv 6) pa_nil)))) (pa_cons (pe_c c_law_within hr (by decide) rfl (pa_cons (pv 0) (pa_cons (pv 2) (pa_cons (pv 6) pa_nil)))) pa_nil))))) (pss_one (ps_ret (pe_cmpR op_eq (pv 6) (pv 4) (nomark _)))) pss_nil)
        (pss_one (ps_if (pt_cmpR op_eq (pv 6) (pv 4) (nomark _)) (pss_one (ps_ret pe_bl)) pss_nil))))
        (pss_one (ps_ret (pe_or (pe_cmpR op_isN1 (pv 4) pe_non (nomark _)) (pe_one (pe_cmpR op_gt (pe_callB (lenK K rfl) (by rfl) T.b_len (by decide +kernel) (pa_cons (pv 4) pa_nil)) (pv 5) (nomark _)))))))), ?_⟩
    have hap := ha.pos
    have hal3 := ha.le
    have hla : (SX.S al).length = al.length := SX.S_len al
    show C8.tCut _ _ _ _ _
    refine i_cut (fun σ H' => ∃ most : Nat, most ≤ 4 ∧ H' = H ∧ σ = [some (.str (SX.S al)), some (.ref p), some (.ref q), some (.str wd), some (txtO al res), some (vn most), none]) ?_ (fun σ H' hz => ?_)
    · walk_at "go"
      refine i_lenS (szl (by omega)) ?_
      walk_at "go"
      refine iteD (fun h => ?_) (fun h => ?_)
      · walk_at "go"
        exact ⟨3, by decide, rfl, rfl⟩
      · walk_at "go"
        exact ⟨4, by decide, rfl, rfl⟩
    obtain ⟨most, hm, eH, rfl⟩ := hz
    subst eH
    walk_at "go"
    refine ⟨al, most, rfl, ha, by omega, fun L H1 s1 hL0 hL1 => ?_⟩
    refine seq_for (t := false) hL1 (fun i σ H2 => ∃ x6, σ = [some (.str (SX.S al)), some (.ref p), some (.ref q), some (.str wd), some (txtO al res), some (vn most), x6] ∧ Same H1 H2 ∧ ∀ (j : Nat) (u : List Nat), j < i → (allTo al.length most)[j]? = some u → ¬ jf gA gB W (run A 0 u, run B 0 u) = true) ⟨none, rfl, Same.refl _, fun j u h => absurd h (Nat.not_lt_zero j)⟩ (fun i σ H2 _ ⟨_, _, s, _⟩ => s _ _ hL1) (fun i v σ H2 hv hz => ?_) (fun σ H2 hz => ?_)
    · obtain ⟨x6, rfl, s2, hn⟩ := hz
      obtain ⟨w, hw, rfl⟩ := at_map hv
      obtain ⟨ow, hwl⟩ := (allTo_ok _ _).mp (List.mem_of_getElem? hw)
      have s12 := s1.trans s2
      walk_at "go"
      refine ⟨Z, al, p, A, gA, w, spl al w, rfl, hp.same s12, ha, hwA, ow.word, ?_⟩
      walk_at "go"
      refine ⟨Z, al, q, B, gB, w, spl al w, rfl, hq.same s12, ha, hwB, ow.word, ?_⟩
      walk_at "go"
      refine ⟨wd, W, _, _, rfl, hwd, ?_⟩
      rw [holdB_jf gA gB W (run A 0 w, run B 0 w)]
      walk_at "go"
      refine iteB (fun hh => ?_) (fun hh => ?_)
      · have e := hLe.at hw hh hn
        walk_at "go"
        refine i_eqTO ha.nd ow (fun u e => (lw_okr hLe u e).1) ?_
        rw [decide_eq_true e]
        exact k H2 s12
      · walk_at "go"
        refine i_eqTO ha.nd ow (fun u e => (lw_okr hLe u e).1) ?_
        walk_at "go"
        refine iteD (fun he => ?_) (fun he => ?_)
        · exfalso
          have := (lw_okr hLe w he).2
          rw [hh] at this
          cases this
        · walk_at "go"
          refine ⟨_, rfl, s2, fun j u hj hu => ?_⟩
          rcases Nat.lt_or_ge j i with z | z
          · exact hn j u z hu
          · have : j = i := by omega
            rw [this, hw] at hu
            cases hu
            rw [hh]
            decide
    · obtain ⟨x6, rfl, s2, hn⟩ := hz
      rw [List.length_map] at hn
      have s12 := s1.trans s2
      walk_at "go"
      cases res with
      | none =>
        refine ite_dt rfl ?_
        exact k H2 s12
      | some u =>
        refine ite_df (by intro z; cases z) ?_
        obtain ⟨ou, pu⟩ := lw_okr hLe u rfl
        have hul := hrl u rfl
        walk_at "go"
        refine i_lenS (z := SX.S (spl al u)) (szl (by rw [SX.S_len, spl_len]; omega)) ?_
        walk_at "go"
        have hlt : most < u.length := by
          rcases Nat.lt_or_ge most u.length with z | z
          · exact z
          · obtain ⟨j, hj⟩ := List.mem_iff_getElem?.mp ((allTo_ok most u).mpr ⟨ou, z⟩)
            exact absurd pu (hn j u (List.getElem?_eq_some_iff.mp hj).1 hj)
        rw [decide_eq_true (by rw [SX.S_len, spl_len]; omega)]
        exact k H2 s12
end
abbrev s_law_longest : Stmt := top 70
theorem sc_law_longest : FnScope ["told", "size", "level", "longest", "length", "met_v", "later", "p", "target"] ["told"] (fnScope s_law_longest) := ⟨rfl, rfl, rfl, by decide +kernel, rfl, by decide +kernel, by decide +kernel⟩
/-- the rooms to which texts of l letters lead -/
def LvA (m : Nat) (rs : Rws) (l : Nat) (lv : List Nat) : Prop := lv.Nodup ∧ ∀ r, r ∈ lv ↔ ∃ w, Ok m w ∧ w.length = l ∧ run rs 0 w = r
theorem lva0 {m : Nat} {rs : Rws} : LvA m rs 0 [0] := ⟨by simp, fun r => ⟨fun h => ⟨[], .nil, rfl, (List.mem_singleton.mp h).symm⟩, fun ⟨w, _, hl, hr⟩ => by
  rw [List.length_eq_zero_iff.mp hl] at hr
  rw [← hr]
  exact List.mem_singleton.mpr rfl⟩⟩
theorem lva_succ {m : Nat} {rs : Rws} (w : WFB m rs) {l : Nat} {lv : List Nat} (h : LvA m rs l lv) : LvA m rs (l + 1) (dd (lv.flatMap (row rs))) := by
  refine ⟨nd_dd _, fun t => ?_⟩
  rw [mem_dd, List.mem_flatMap]
  constructor
  · rintro ⟨r, hr, ht⟩
    obtain ⟨v, ov, hl, rfl⟩ := (h.2 r).mp hr
    obtain ⟨a, ha⟩ := List.mem_iff_getElem?.mp ht
    have hrl := w.run_lt w.pos ov
    have ham : a < m := by
      have := (List.getElem?_eq_some_iff.mp ha).1
      rw [w.row_len hrl] at this
      exact this
    have e := w.stp_at hrl ham
    rw [ha] at e
    exact ⟨v ++ [a], ov.snoc ham, by rw [List.length_append, hl] <;> rfl, by rw [run_snoc2]; exact (Option.some.inj e).symm⟩
  · rintro ⟨v, ov, hl, hr⟩
    rcases snoc_cases v with rfl | ⟨u, a, rfl⟩
    · cases hl
    · obtain ⟨ou, ha⟩ := ov.init
      rw [run_snoc2] at hr
      exact ⟨run rs 0 u, (h.2 _).mpr ⟨u, ou, by simpa using hl, rfl⟩, by rw [← hr]; exact List.mem_of_getElem? (w.stp_at (w.run_lt w.pos ou) ha)⟩
theorem lva_lt {m : Nat} {rs : Rws} (w : WFB m rs) {l : Nat} {lv : List Nat} (h : LvA m rs l lv) : ∀ r ∈ lv, r < rs.length := fun r hr => by
  obtain ⟨v, ov, _, rfl⟩ := (h.2 r).mp hr
  exact w.run_lt w.pos ov
theorem lva_hit {m : Nat} {rs : Rws} {gd : List Nat} {l : Nat} {lv : List Nat} {L : Int} (h : LvA m rs l lv) (s : LgS m rs gd l L) {r : Nat} (hr : r ∈ lv) (hg : r ∈ gd) : LgS m rs gd (l + 1) (l : Int) := by
  obtain ⟨v, ov, hl, rfl⟩ := (h.2 r).mp hr
  exact ⟨by omega, by omega, fun w _ _ hw => by omega, .inr ⟨v, ov, hg, by omega⟩⟩
theorem lva_miss {m : Nat} {rs : Rws} {gd : List Nat} {l : Nat} {lv : List Nat} {L : Int} (h : LvA m rs l lv) (s : LgS m rs gd l L) (hn : ∀ r ∈ lv, r ∉ gd) : LgS m rs gd (l + 1) L := by
  obtain ⟨s1, s2, s3, s4⟩ := s
  refine ⟨s1, by omega, fun w ow pw hw => ?_, s4⟩
  by_cases e : w.length = l
  · exact absurd pw (hn _ ((h.2 _).mpr ⟨w, ow, e, rfl⟩))
  · exact s3 w ow pw (by omega)
theorem lgs_end {m : Nat} {rs : Rws} {gd : List Nat} (w : WFB m rs) {L : Int} (s : LgS m rs gd (2 * rs.length) L) (hL : L < rs.length) : LongR m rs gd (some L) := by
  have key : ∀ u, Ok m u → run rs 0 u ∈ gd → u.length < 2 * rs.length → (u.length : Int) ≤ L := s.2.2.1
  refine ⟨s.1, hL, fun u ou pu => ?_, s.2.2.2⟩
  rcases Nat.lt_or_ge u.length rs.length with z | z
  · exact key u ou pu (by omega)
  · obtain ⟨v, ov, pv, h1, h2⟩ := pump w _ u rfl ou pu z
    have := key v ov pv h2
    omega
def sp_law_longest : Sp := fun vs H Q _ => ∃ (Z : AS) (p : Addr) (rs : Rws) (gd : List Nat) (m : Nat), vs = [.ref p] ∧ Mach Z H p rs gd ∧ WF m rs ∧ ∀ res H', Same H H' → LongR m rs gd res → Q (resV res) H'
section
variable {P : Program} {w : World} {K : PySem.W.Frag} {mg : Str → Option Value} {base : Heap} {C : Addr} {r : Er}
set_option maxHeartbeats 4000000 in
theorem ok_law_longest {f : Addr} {fd : FuncData} (F : Def K mg "_law_longest" s_law_longest f fd) (T : Txt K mg C r) (b : Binds K fd ["told"] []) : Cal P w K mg base 1 "_law_longest" (sp_law_longest) [] := by
  refine cal0 F b .nil sc_law_longest (fun vs H Q E h => ?_) (fun cdv A outer s H vs Q E hr h => ?_)
  · obtain ⟨_, _, _, _, _, rfl, _⟩ := h
    rfl
  · obtain ⟨Z, p, rs, gd, m, rfl, hp, hw, k⟩ := h
    refine ⟨_, (pss_cons (ps_set (i := 1) sc_law_longest.nd rfl (by first | exact Or.inl rfl | exact Or.inr rfl) (pe_callB (lenK K rfl) (by rfl) T.b_len (by decide +kernel) (pa_cons (pe_ix (ixK K rfl) (pv 0) pe_int (fun _ _ => rfl)) pa_nil)))
        (pss_cons (ps_set (i := 2) sc_law_longest.nd rfl (by first | exact Or.inl rfl | exact Or.inr rfl) (pe_lst (pa_cons pe_int pa_nil)))
        (pss_cons (ps_set (i := 3) sc_law_longest.nd rfl (by first | exact Or.inl rfl | exact Or.inr rfl) (pe_un un_neg pe_int))
        (pss_cons (ps_for PassesOwn.never rfl (pi_range1 (by rfl) T.b_range (pa_cons (pe_op op_mul pe_int (pv 1)) pa_nil)) (pg_name (i := 4) sc_law_longest.nd rfl (by first | exact Or.inl rfl | exact Or.inr rfl))
        (C8.pss_cut (ps_if (pt_cmpR op_gt (pe_callB (lenK K rfl) (by rfl) T.b_len (by decide +kernel) (pa_cons (pe_lc (own := [("p", 7)]) rfl sc_law_longest.nd (seqK K rfl (pv 2)) (blkOk_by (by kernel_rfl)) (fun _ _ _ _ _ => (pg_name (i := 7) sc_law_longest.nd rfl (by first | exact Or.inl rfl | exact Or.inr rfl))) (fun _ _ _ _ _ => (pts_one (pt_cmpR (inK K rfl) (pv 7) (pe_ix (ixK K rfl) (pv 0) pe_int (fun _ _ => rfl)) rfl))) (fun _ _ _ _ _ => (pv 7))) pa_nil)) pe_int (nomark _)) (pss_cons (ps_if (pt_cmpR op_ge (pv 4) (pv 1) (nomark _)) (pss_one (ps_ret pe_non)) pss_nil)
        (pss_one (ps_set (i := 3) sc_law_longest.nd rfl (by first | exact Or.inl rfl | exact Or.inr rfl) (pv 4)))) pss_nil)
        (pss_cons (ps_set (i := 5) sc_law_longest.nd rfl (by first | exact Or.inl rfl | exact Or.inr rfl) pe_dnewK)
        (pss_cons (ps_set (i := 6) sc_law_longest.nd rfl (by first | exact Or.inl rfl | exact Or.inr rfl) (pe_lst pa_nil))
        (pss_cons (ps_for PassesOwn.never rfl (seqK K rfl (pv 2)) (pg_name (i := 7) sc_law_longest.nd rfl (by first | exact Or.inl rfl | exact Or.inr rfl))
        (pss_one (ps_for PassesOwn.never rfl (seqK K rfl (pe_ix (ixK K rfl) (pe_ix (ixK K rfl) (pv 0) pe_int (fun _ _ => rfl)) (pv 7) (fun _ _ => rfl))) (pg_name (i := 8) sc_law_longest.nd rfl (by first | exact Or.inl rfl | exact Or.inr rfl))
        (pss_one (ps_if (pt_cmp (pc_dnotin (hu_of hr) (pv 8) (pv 5))) (pss_cons (ps_dput (hu_of hr) (pv 5) (pv 8) pe_bl rfl)
        (pss_one (ps_expr (bmK K rfl (pe_bm PySem.F.plainAttrs_list PySem.F.slot_list_append PySem.F.type_list_append mt_append (pv 6) (pa_cons (pv 8) pa_nil)))))) pss_nil)))))
        (pss_one (ps_set (i := 2) sc_law_longest.nd rfl (by first | exact Or.inl rfl | exact Or.inr rfl) (pe_callTy (listK K rfl) (by rfl) T.b_list (by decide +kernel) (pa_cons (pv 6) pa_nil)))))))))
        (pss_one (ps_ret (pv 3))))))), ?_⟩
    have hle := hw.le
    have hpos := hw.pos
    have hm3 := hw.m3
    obtain ⟨hpZ, pm, pg, hp1, hp2, hp3⟩ := hp
    obtain ⟨_, tg, hg1⟩ := id hp3
    obtain ⟨tm, vm, hm1, hml⟩ := hp2.len
    walk_at "go"
    refine i_lenQ hm1 ?_
    rw [hml]
    walk_at "go"
    refine ⟨sz1, fun L0 hL0 => ?_⟩
    walk_at "go"
    rw [show ((2 : Int) * (rs.length : Int)) = ((2 * rs.length : Nat) : Int) by omega]
    refine ⟨by omega, by omega, ?_⟩
    rw [Int.toNat_natCast]
    refine rng0_for (n := 2 * rs.length) (fun l σ H3 => ∃ (Lv : Addr) (lv : List Nat) (L : Int) (x4 x5 x6 x7 x8 : Option V), σ = [some (.ref p), some (vn rs.length), some (.ref Lv), some (.int L), x4, x5, x6, x7, x8] ∧ Same H H3 ∧ H3 Lv = some (.lst (lv.map vn)) ∧ LvA m rs l lv ∧ LgS m rs gd l L ∧ L < rs.length)
      ⟨L0, [0], -1, none, none, none, none, none, rfl, same_laid hL0, upd_same, lva0, lgs0, by omega⟩ (fun l σ H3 hl hq => ?_) (fun σ H3 hq => ?_)
    · obtain ⟨Lv, lv, L, x4, x5, x6, x7, x8, rfl, s3, hL3, hlv, hlg, hLn⟩ := hq
      have hlvlt := lva_lt hw.b hlv
      have hlvn := nodup_le hlv.1 hlvlt
      walk_at "go"
      show C8.tCut _ _ _ _ _
      refine i_cut (fun σ H4 => ∃ (L' : Int), σ = [some (.ref p), some (vn rs.length), some (.ref Lv), some (.int L'), some (vn l), x5, x6, x7, x8] ∧ Same H3 H4 ∧ LgS m rs gd (l + 1) L' ∧ L' < rs.length) ?_ (fun σ H4 hq => ?_)
      · walk_at "go"
        refine seq_lc (t := false) (xs := lv.map vn) hL3 (fun E hE => ⟨fun q H5 => Same H3 H5 ∧ H5 E = some (.lst (((lv.take q).filter fun r => decide (r ∈ gd)).map vn)), ⟨same_laid hE, upd_same⟩, fun q H5 _ ⟨e, _⟩ => e _ _ hL3, fun q v H5 hvq hz => ?_, fun H5 hz => ?_⟩)
        · obtain ⟨s5, hE5⟩ := hz
          obtain ⟨r, hr, rfl⟩ := at_map hvq
          have hfl := List.length_filter_le (fun r => decide (r ∈ gd)) (lv.take q)
          rw [List.length_take] at hfl
          have hg5 := s5 _ _ (s3 _ _ hg1)
          have hp5 := s5 _ _ (s3 _ _ hp1)
          walk_at "go"
          refine i_inI hg5 ?_
          walk_at "go"
          refine iteB (fun hb => ?_) (fun hb => ?_)
          · walk_at "go"
            refine ⟨_, hE5, szlt (by rw [List.length_map]; omega), Same.put s5 hE, ?_⟩
            rw [upd_same, take_at hr, List.filter_append, filt1, if_pos hb, List.map_append] <;> rfl
          · exact ⟨s5, by rw [hE5, take_at hr, List.filter_append, filt1, if_neg (by rw [hb]; decide), List.append_nil]⟩
        · obtain ⟨s5, hE5⟩ := hz
          rw [List.length_map, List.take_length] at hE5
          walk_at "go"
          rw [List.length_map]
          refine iteD (fun hb3 => ?_) (fun hb3 => ?_)
          · have hb4 : 0 < (lv.filter fun r => decide (r ∈ gd)).length := by
              have : ((lv.filter fun r => decide (r ∈ gd)).length : Int) > 0 := hb3
              omega
            obtain ⟨r, hr⟩ := List.exists_mem_of_length_pos hb4
            obtain ⟨hr1, hg⟩ := List.mem_filter.mp hr
            have hg := decide_eq_true_iff.mp hg
            walk_at "go"
            refine iteD (fun hx => ?_) (fun hx => ?_)
            · walk_at "go"
              obtain ⟨v, ov, hvl, hvr⟩ := (hlv.2 r).mp hr1
              exact k none H5 (s3.trans s5) ⟨v, ov, by rw [hvr]; exact hg, by
                have : (rs.length : Int) ≤ (l : Int) := hx
                omega⟩
            · walk_at "go"
              exact ⟨_, rfl, s5, lva_hit hlv hlg hr1 hg, by
                have : ¬ (rs.length : Int) ≤ (l : Int) := hx
                omega⟩
          · walk_at "go"
            refine ⟨_, rfl, s5, lva_miss hlv hlg fun r hr hg => ?_, hLn⟩
            have := List.length_pos_of_mem (List.mem_filter (p := fun r => decide (r ∈ gd)).mpr ⟨hr, decide_eq_true hg⟩)
            omega
      · obtain ⟨L', rfl, s4, hlg', hLn'⟩ := hq
        have hL4 := s4 _ _ hL3
        have s34 := s3.trans s4
        walk_at "go"
        intro F hF
        walk_at "go"
        refine ⟨by decide, fun R hR => ?_⟩
        have hFR : F ≠ R := ne_of_none upd_same hR
        have hR4 : H4 R = none := same_free (same_laid hF) hR
        have s6 : Same H4 (upd (upd H4 F (.dK [])) R (.lst [])) := (same_laid hF).trans (same_laid hR)
        have hF6 : (upd (upd H4 F (.dK [])) R (.lst [])) F = some (.dK (mapK (dd ([] : List Nat)) fun _ => .bl true)) := by rw [upd_ne hFR, upd_same]; rfl
        have hR6 : (upd (upd H4 F (.dK [])) R (.lst [])) R = some (.lst ((dd ([] : List Nat)).map vn)) := upd_same
        generalize (upd (upd H4 F (.dK [])) R (.lst [])) = H6 at *
        walk_at "go"
        refine seq_for (t := false) (xs := lv.map vn) (s6 _ _ hL4) (fun j σ H7 => ∃ (x7 x8 : Option V), σ = [some (.ref p), some (vn rs.length), some (.ref Lv), some (.int L'), some (vn l), some (.ref F), some (.ref R), x7, x8] ∧ Same H4 H7 ∧ H7 F = some (.dK (mapK (dd ((lv.take j).flatMap (row rs))) fun _ => .bl true)) ∧ H7 R = some (.lst ((dd ((lv.take j).flatMap (row rs))).map vn)))
          ⟨_, _, rfl, s6, by rw [List.take_zero]; exact hF6, by rw [List.take_zero]; exact hR6⟩ (fun j σ H7 _ ⟨_, _, _, e, _⟩ => e _ _ hL4) (fun j v σ H7 hv hq => ?_) (fun σ H7 hq => ?_)
        · obtain ⟨x7, x8, rfl, s7, hF7, hR7⟩ := hq
          obtain ⟨r, hr, rfl⟩ := at_map hv
          have hrl := hlvlt r (List.mem_of_getElem? hr)
          obtain ⟨tr, vr, ar, hr1, hr2, hr3, hr4, tr5, hr6⟩ := hp2.at hrl
          have hwr := hw.b.row_len hrl
          have hp7 := s7 _ _ (s34 _ _ hp1)
          have s37 := s34.trans s7
          walk_at "go"
          refine i_ixQ (s37 _ _ hr1) hr3 ?_
          refine seq_for (t := tr5) (xs := (row rs r).map vn) (s37 _ _ hr6) (fun q σ H8 => ∃ (x8 : Option V), σ = [some (.ref p), some (vn rs.length), some (.ref Lv), some (.int L'), some (vn l), some (.ref F), some (.ref R), some (vn r), x8] ∧ Same H4 H8 ∧ H8 F = some (.dK (mapK (dd ((lv.take j).flatMap (row rs) ++ (row rs r).take q)) fun _ => .bl true)) ∧ H8 R = some (.lst ((dd ((lv.take j).flatMap (row rs) ++ (row rs r).take q)).map vn)))
            ⟨_, rfl, s7, by rw [List.take_zero, List.append_nil]; exact hF7, by rw [List.take_zero, List.append_nil]; exact hR7⟩ (fun q σ H8 _ ⟨_, _, e, _⟩ => (s34.trans e) _ _ hr6) (fun q v σ H8 hv hq => ?_) (fun σ H8 hq => ?_)
          · obtain ⟨y8, rfl, s8, hF8, hR8⟩ := hq
            obtain ⟨y, hy, rfl⟩ := at_map hv
            have hyn : y < rs.length := hw.b.row_lt hrl (List.mem_of_getElem? hy)
            have hon : (dd ((lv.take j).flatMap (row rs) ++ (row rs r).take q)).length ≤ rs.length := nodup_le (nd_dd _) fun z hz => by
              rcases List.mem_append.mp (mem_dd.mp hz) with hz | hz
              · obtain ⟨r', hr', hz⟩ := List.mem_flatMap.mp hz
                exact hw.b.row_lt (hlvlt r' (List.mem_of_mem_take hr')) hz
              · exact hw.b.row_lt hrl (List.mem_of_mem_take hz)
            have hnx : dd ((lv.take j).flatMap (row rs) ++ (row rs r).take (q + 1)) = addN (dd ((lv.take j).flatMap (row rs) ++ (row rs r).take q)) y := by
              rw [take_at hy, ← List.append_assoc, dd_snoc]
            generalize dd ((lv.take j).flatMap (row rs) ++ (row rs r).take q) = o at *
            walk_at "go"
            refine r_dnotin hF8 ?_
            walk_at "go"
            by_cases hin : y ∈ o
            · rw [valV_mapK_in hin]
              refine iteNT ?_
              walk_at "go"
              rw [hnx, addN, if_pos hin]
              exact ⟨_, rfl, s8, hF8, hR8⟩
            · rw [valV_mapK_no hin]
              refine iteNF ?_
              walk_at "go"
              refine r_dput hF8 (by rw [mapK_len]; omega) ?_
              walk_at "go"
              refine i_append (xs := o.map vn) (by rw [upd_ne hFR.symm]; exact hR8) (by rw [List.length_map]; omega) ?_
              walk_at "go"
              rw [hnx, addN, if_neg hin]
              refine ⟨_, rfl, Same.put (Same.put s8 hF) hR4, ?_, ?_⟩
              · rw [upd_ne hFR, upd_same, putK_mapK hin rfl]
              · rw [upd_same, List.map_append] <;> rfl
          · obtain ⟨y8, rfl, s8, hF8, hR8⟩ := hq
            rw [List.length_map, List.take_length] at hF8 hR8
            refine ⟨_, _, rfl, s8, ?_, ?_⟩
            · rw [take_at hr, List.flatMap_append, List.flatMap_singleton]
              exact hF8
            · rw [take_at hr, List.flatMap_append, List.flatMap_singleton]
              exact hR8
        · obtain ⟨x7, x8, rfl, s7, hF7, hR7⟩ := hq
          rw [List.length_map, List.take_length] at hR7
          walk_at "go"
          refine i_listOf (t := false) hR7 (fun L2 hL2 => ?_)
          walk_at "go"
          exact ⟨L2, _, L', _, _, _, _, _, rfl, (s34.trans s7).trans (same_laid hL2), upd_same, lva_succ hw.b hlv, hlg', hLn'⟩
    · obtain ⟨Lv, lv, L, x4, x5, x6, x7, x8, rfl, s3, hL3, hlv, hlg, hLn⟩ := hq
      walk_at "go"
      exact k (some L) H3 s3 (lgs_end hw.b hlg hLn)
end
abbrev s_law_lesser : Stmt := top 78
theorem sc_law_lesser : FnScope ["one", "other"] ["one", "other"] (fnScope s_law_lesser) := ⟨rfl, rfl, rfl, by decide +kernel, rfl, by decide +kernel, by decide +kernel⟩
def sp_law_lesser : Sp := fun vs H Q _ => ∃ (al : List Nat) (r1 r2 : Option (List Nat)), vs = [txtO al r1, txtO al r2] ∧ AlOk al ∧ (∀ u, r1 = some u → Ok al.length u ∧ u.length ≤ 4000) ∧ (∀ u, r2 = some u → Ok al.length u ∧ u.length ≤ 4000) ∧ Q (txtO al (minW al.length r1 r2)) H
section
variable {P : Program} {w : World} {K : PySem.W.Frag} {mg : Str → Option Value} {base : Heap} {C : Addr} {r : Er}
set_option maxHeartbeats 4000000 in
theorem ok_law_lesser {f : Addr} {fd : FuncData} (F : Def K mg "_law_lesser" s_law_lesser f fd) (T : Txt K mg C r) (b : Binds K fd ["one", "other"] []) : Cal P w K mg base 1 "_law_lesser" (sp_law_lesser) [] := by
  refine cal0 F b .nil sc_law_lesser (fun vs H Q E h => ?_) (fun cdv A outer s H vs Q E hr h => ?_)
  · obtain ⟨_, _, _, rfl, _⟩ := h
    rfl
  · obtain ⟨al, r1, r2, rfl, ha, o1, o2, k⟩ := h
    refine ⟨_, (pss_cons (ps_if (PW.pt (pw_or (pt_cmpR op_isN1 (pv 0) pe_non (nomark _)) (pw_or1 (pt_cmpR op_isN1 (pv 1) pe_non (nomark _))))) (pss_one (ps_ret (pe_ifExp (pt_cmpR op_isN1 (pv 1) pe_non (nomark _)) (pv 0) (pv 1)))) pss_nil)
        (pss_cons (ps_if (pt_cmpR op_ne (pe_callB (lenK K rfl) (by rfl) T.b_len (by decide +kernel) (pa_cons (pv 0) pa_nil)) (pe_callB (lenK K rfl) (by rfl) T.b_len (by decide +kernel) (pa_cons (pv 1) pa_nil)) (nomark _)) (pss_one (ps_ret (pe_ifExp (pt_cmpR op_lt (pe_callB (lenK K rfl) (by rfl) T.b_len (by decide +kernel) (pa_cons (pv 0) pa_nil)) (pe_callB (lenK K rfl) (by rfl) T.b_len (by decide +kernel) (pa_cons (pv 1) pa_nil)) (nomark _)) (pv 0) (pv 1)))) pss_nil)
        (pss_one (ps_ret (pe_callB (call_minS rfl) (by rfl) T.b_min (by decide +kernel) (pa_cons (pv 0) (pa_cons (pv 1) pa_nil))))))), ?_⟩
    walk_at "go"
    cases r1 with
    | none =>
      refine ite_dt rfl ?_
      walk_at "go"
      cases r2 with
      | none =>
        refine ite_dt rfl ?_
        walk_at "go"
        exact k
      | some w =>
        refine ite_df (by intro z; cases z) ?_
        walk_at "go"
        exact k
    | some u =>
      refine ite_df (by intro z; cases z) ?_
      walk_at "go"
      cases r2 with
      | none =>
        refine ite_dt rfl ?_
        walk_at "go"
        refine ite_dt rfl ?_
        walk_at "go"
        exact k
      | some w =>
        obtain ⟨ou, hu⟩ := o1 u rfl
        obtain ⟨ow, hw⟩ := o2 w rfl
        refine ite_df (by intro z; cases z) ?_
        have e1 : (SX.S (spl al u)).length = u.length := by rw [SX.S_len, spl_len]
        have e2 : (SX.S (spl al w)).length = w.length := by rw [SX.S_len, spl_len]
        walk_at "go"
        refine i_lenS (z := SX.S (spl al u)) (szl (by omega)) ?_
        walk_at "go"
        refine i_lenS (z := SX.S (spl al w)) (szl (by omega)) ?_
        rw [e1, e2]
        walk_at "go"
        refine iteDN (fun hx => ?_) (fun hx => ?_)
        · walk_at "go"
          refine i_lenS (z := SX.S (spl al u)) (szl (by omega)) ?_
          walk_at "go"
          refine i_lenS (z := SX.S (spl al w)) (szl (by omega)) ?_
          rw [e1, e2]
          walk_at "go"
          refine iteD (fun hy => ?_) (fun hy => ?_)
          · walk_at "go"
            have h1 := wnum_len (w := w) ou (by omega)
            have e3 : minW al.length (some u) (some w) = some u := if_neg (by omega)
            rw [e3] at k
            exact k
          · walk_at "go"
            have h1 := wnum_len (w := u) ow (by omega)
            have e3 : minW al.length (some u) (some w) = some w := if_pos h1
            rw [e3] at k
            exact k
        · walk_at "go"
          refine ⟨SX.S (spl al u), SX.S (spl al w), rfl, ?_⟩
          have hl : w.length = u.length := by omega
          have hord := spl_lt ha.inc w u 0 hl ow ou
          by_cases h : spl al w < spl al u
          · have e3 : minW al.length (some u) (some w) = some w := if_pos (hord.mp h)
            rw [e3] at k
            rw [if_pos (show (SX.S (spl al w)).cps.toList < (SX.S (spl al u)).cps.toList from h)]
            exact k
          · have e3 : minW al.length (some u) (some w) = some u := if_neg (fun z => h (hord.mpr z))
            rw [e3] at k
            rw [if_neg (show ¬ (SX.S (spl al w)).cps.toList < (SX.S (spl al u)).cps.toList from h)]
            exact k
end
abbrev s_law_doubled : Stmt := top 72
theorem sc_law_doubled : FnScope ["source", "told", "counts", "places", "p", "c", "moves", "place", "row", "target", "k"] ["source", "told"] (fnScope s_law_doubled) := ⟨rfl, rfl, rfl, by decide +kernel, rfl, by decide +kernel, by decide +kernel⟩
def sp_law_doubled : Sp := fun vs H Q _ => ∃ (S : AS) (a p : Addr) (rs : Rws) (gd : List Nat) (m : Nat), vs = [.ref a, .ref p] ∧ S a ∧ Srcs S H ∧ Mach S H p rs gd ∧ 0 < m ∧ WF m rs ∧ GOK rs.length gd ∧ rs.length ≤ 29 ∧
  ∀ q rs' gd' H', Ev S H H' → Mach S H' q rs' gd' → WF m rs' → GOK rs'.length gd' → Q (.ref q) H'
section
variable {P : Program} {w : World} {K : PySem.W.Frag} {mg : Str → Option Value} {base : Heap} {C : Addr} {r : Er}
set_option maxHeartbeats 4000000 in
theorem ok_law_doubled {f : Addr} {fd : FuncData} (F : Def K mg "_law_doubled" s_law_doubled f fd) (T : Txt K mg C r) (b : Binds K fd ["source", "told"] []) (c_law_pick : Cal P w K mg base 1 "_law_pick" sp_law_pick []) : Cal P w K mg base 2 "_law_doubled" (sp_law_doubled) [] := by
  refine cal0 F b .nil sc_law_doubled (fun vs H Q E h => ?_) (fun cdv A outer s H vs Q E hr h => ?_)
  · obtain ⟨_, _, _, _, _, _, rfl, _⟩ := h
    rfl
  · obtain ⟨S, a, p, rs, gd, m, rfl, ha, hS, hp, hm0, hw, hg, hn, k⟩ := h
    refine ⟨_, (pss_cons (ps_setLc (i := 2) (own := [("row", 8)]) rfl sc_law_doubled.nd rfl rfl (sw_true rfl rfl rfl (by decide +kernel)) (seqK K rfl (pe_ix (ixK K rfl) (pv 1) pe_int (fun _ _ => rfl))) (blkOk_by (by kernel_rfl)) (fun _ _ _ _ _ => (pg_name (i := 8) sc_law_doubled.nd rfl (by first | exact Or.inl rfl | exact Or.inr rfl))) (fun _ _ _ _ _ => pts_nil) (fun _ _ _ _ _ => (pe_op op_add pe_int (pe_c c_law_pick hr (by decide) rfl (pa_cons (pv 0) (pa_cons pe_int pa_nil))))))
        (pss_cons (ps_set (i := 3) sc_law_doubled.nd rfl (by first | exact Or.inl rfl | exact Or.inr rfl) (pe_lst (pa_cons (pe_tup (pa_cons pe_int (pa_cons pe_int pa_nil))) pa_nil)))
        (pss_cons (ps_for PassesOwn.never rfl (pi_range1 (by rfl) T.b_range (pa_cons (pe_callB (lenK K rfl) (by rfl) T.b_len (by decide +kernel) (pa_cons (pv 2) pa_nil)) pa_nil)) (pg_name (i := 4) sc_law_doubled.nd rfl (by first | exact Or.inl rfl | exact Or.inr rfl))
        (pss_one (ps_for PassesOwn.never rfl (pi_range1 (by rfl) T.b_range (pa_cons (pe_ix (ixK K rfl) (pv 2) (pv 4) (fun _ _ => rfl)) pa_nil)) (pg_name (i := 5) sc_law_doubled.nd rfl (by first | exact Or.inl rfl | exact Or.inr rfl))
        (pss_one (ps_if (pt_cmpR op_gt (pe_op op_add (pv 4) (pv 5)) pe_int (nomark _)) (pss_one (ps_expr (bmK K rfl (pe_bm PySem.F.plainAttrs_list PySem.F.slot_list_insert PySem.F.type_list_insert mt_insertR (pv 3) (pa_cons (pe_op op_add pe_int (pe_c c_law_pick hr (by decide) rfl (pa_cons (pv 0) (pa_cons (pe_callB (lenK K rfl) (by rfl) T.b_len (by decide +kernel) (pa_cons (pv 3) pa_nil)) pa_nil)))) (pa_cons (pe_tup (pa_cons (pv 4) (pa_cons (pv 5) pa_nil))) pa_nil)))))) pss_nil)))))
        (pss_cons (ps_set (i := 6) sc_law_doubled.nd rfl (by first | exact Or.inl rfl | exact Or.inr rfl) (pe_lst pa_nil))
        (pss_cons (ps_for PassesOwn.never rfl (seqK K rfl (pv 3)) (pg_name (i := 7) sc_law_doubled.nd rfl (by first | exact Or.inl rfl | exact Or.inr rfl))
        (pss_cons (ps_set (i := 8) sc_law_doubled.nd rfl (by first | exact Or.inl rfl | exact Or.inr rfl) (pe_lst pa_nil))
        (pss_cons (ps_for PassesOwn.never rfl (seqK K rfl (pe_ix (ixK K rfl) (pe_ix (ixK K rfl) (pv 1) pe_int (fun _ _ => rfl)) (pe_ix (ixK K rfl) (pv 7) pe_int (fun _ _ => rfl)) (fun _ _ => rfl))) (pg_name (i := 9) sc_law_doubled.nd rfl (by first | exact Or.inl rfl | exact Or.inr rfl))
        (pss_one (ps_expr (bmK K rfl (pe_bm PySem.F.plainAttrs_list PySem.F.slot_list_append PySem.F.type_list_append mt_append (pv 8) (pa_cons (bmK K rfl (pe_bm PySem.F.plainAttrs_list PySem.F.slot_list_index PySem.F.type_list_index (mt_indexDK K rfl (units65 hr)) (pv 3) (pa_cons (pe_tup (pa_cons (pv 9) (pa_cons (pe_c c_law_pick hr (by decide) rfl (pa_cons (pv 0) (pa_cons (pe_ix (ixK K rfl) (pv 2) (pv 9) (fun _ _ => rfl)) pa_nil))) pa_nil))) pa_nil))) pa_nil))))))
        (pss_one (ps_expr (bmK K rfl (pe_bm PySem.F.plainAttrs_list PySem.F.slot_list_append PySem.F.type_list_append mt_append (pv 6) (pa_cons (pv 8) pa_nil))))))))
        (pss_one (ps_ret (pe_tup (pa_cons (pv 6) (pa_cons (pe_lc (own := [("k", 10)]) rfl sc_law_doubled.nd (pi_range1 (by rfl) T.b_range (pa_cons (pe_callB (lenK K rfl) (by rfl) T.b_len (by decide +kernel) (pa_cons (pv 3) pa_nil)) pa_nil)) (blkOk_by (by kernel_rfl)) (fun _ _ _ _ _ => (pg_name (i := 10) sc_law_doubled.nd rfl (by first | exact Or.inl rfl | exact Or.inr rfl))) (fun _ _ _ _ _ => (pts_one (pt_cmpR (inK K rfl) (pe_ix (ixK K rfl) (pe_ix (ixK K rfl) (pv 3) (pv 10) (fun _ _ => rfl)) pe_int (fun _ _ => rfl)) (pe_ix (ixK K rfl) (pv 1) pe_int (fun _ _ => rfl)) rfl))) (fun _ _ _ _ _ => (pv 10))) pa_nil)))))))))), ?_⟩
    obtain ⟨hpS, pm, pg, hp1, hp2, hp3⟩ := id hp
    obtain ⟨hgS, tg, hp4⟩ := id hp3
    obtain ⟨hmS, tm, am, hm1, hmP⟩ := id hp2
    have hml : (am.map V.ref).length = rs.length := by rw [List.length_map, hmP.length]
    have hpos := hw.pos
    have hm3 := hw.m3
    walk_at "go"
    refine seq_lc hm1 (fun C1 hC1 => ⟨fun j H' => Ev S H H' ∧ ∃ cs : List Nat, H' C1 = some (.lst (cs.map vn)) ∧ cs.length = j ∧ ∀ c ∈ cs, 1 ≤ c ∧ c ≤ 2, ⟨.laid hS hC1, [], upd_same, rfl, by simp⟩, fun j H' _ hz => hz.1.at hmS hm1, fun j v H' hv hz => ?_, fun H' hz => ?_⟩)
    · obtain ⟨e1, cs, hC, hcl, hc⟩ := hz
      have hj := (List.getElem?_eq_some_iff.mp hv).1
      walk_at "go"
      refine ⟨S, a, _, rfl, ha, e1.src, by omega, by omega, fun d H3 g0 g1 e2 => ?_⟩
      obtain ⟨d, rfl⟩ := Int.eq_ofNat_of_zero_le g0
      walk_at "go"
      refine ⟨_, e2.at (hS.notin hC1) hC, szlt (by rw [List.length_map]; omega), Ev.put hS (e1.trans e2) hC1, cs ++ [1 + d], by rw [upd_same, List.map_append]; rfl, by simp [hcl], fun c hcc => ?_⟩
      rcases List.mem_append.mp hcc with h | h
      · exact hc c h
      · rw [List.mem_singleton.mp h]
        omega
    · obtain ⟨e2, cs, hC2, hcl, hcs⟩ := hz
      rw [hml] at hcl
      have hCS : ¬ S C1 := hS.notin hC1
      have hS2 := e2.src
      have hct : ∀ q, q < rs.length → ∃ c, cs[q]? = some c ∧ cs.getD q 0 = c ∧ 1 ≤ c ∧ c ≤ 2 := fun q hq => by
        have h1 : cs[q]? = some (cs.getD q 0) := by
          rw [List.getD_eq_getElem?_getD, List.getElem?_eq_getElem (by omega)]
          rfl
        exact ⟨_, h1, rfl, hcs _ (List.mem_of_getElem? h1)⟩
      walk_at "go"
      refine ⟨sz2, fun T1 hT1 => ?_⟩
      have e3 := Ev.laid (o := .tup [.int 0, .int 0]) hS2 hT1
      walk_at "go"
      refine ⟨sz1, fun PL hPL => ?_⟩
      have e4 := Ev.laid (o := .lst [.ref T1]) e3.src hPL
      have hPS : ¬ S PL := e3.src.notin hPL
      have hPLH : H PL = none := Ev.free (e2.trans e3) hPL
      have e04 := e2.trans (e3.trans e4)
      have hC4 := e4.at hCS (e3.at hCS hC2)
      have hCP : C1 ≠ PL := ne_of_none (e3.at hCS hC2) hPL
      have hPL4 : (upd (upd H' T1 (.tup [.int 0, .int 0])) PL (.lst [.ref T1])) PL = some (.lst ([T1].map V.ref)) := upd_same
      have hPA4 : PlAt (upd (upd H' T1 (.tup [.int 0, .int 0])) PL (.lst [.ref T1])) [T1] [(some 0, 0)] := .cons (by rw [upd_ne (ne_of_none upd_same hPL), upd_same]; rfl) .nil
      generalize upd (upd H' T1 (.tup [.int 0, .int 0])) PL (.lst [.ref T1]) = H4 at *
      walk_at "go"
      rw [List.length_map, hcl]
      refine ⟨by omega, by omega, ?_⟩
      rw [Int.toNat_natCast]
      refine rng0_for (fun i σ H' => ∃ (x4 x5 : Option V) (as : List Addr) (ps : List Plc), σ = [some (.ref a), some (.ref p), some (.ref C1), some (.ref PL), x4, x5, none, none, none, none, none] ∧ Ev S H H' ∧ H' C1 = some (.lst (cs.map vn)) ∧ H' PL = some (.lst (as.map V.ref)) ∧ PlAt H' as ps ∧ ps[0]? = some (some 0, 0) ∧ (∀ pl ∈ ps, ∃ q c, pl = (some q, c) ∧ q < rs.length) ∧ (∀ q c, q < i → c < cs.getD q 0 → (some q, c) ∈ ps) ∧ ps.length ≤ 1 + 2 * i)
        ⟨none, none, [T1], [(some 0, 0)], rfl, e04, hC4, hPL4, hPA4, rfl, fun pl hpl => ⟨0, 0, List.mem_singleton.mp hpl, hpos⟩, fun q c hq => absurd hq (Nat.not_lt_zero q), by simp⟩ (fun i σ H' hi hq => ?_) (fun σ H' hq => ?_)
      · obtain ⟨x4, x5, as, ps, rfl, e5, hC5, hPL5, hPA5, h0, hrg, hcv, hpl⟩ := hq
        obtain ⟨ci, hci, hcd, hc1, hc2⟩ := hct i hi
        walk_at "go"
        refine i_ixL hC5 (vn_at hci) ?_
        walk_at "go"
        refine ⟨by omega, by omega, ?_⟩
        rw [Int.toNat_natCast]
        refine rng0_for (fun c σ H' => ∃ (x5 : Option V) (as : List Addr) (ps : List Plc), σ = [some (.ref a), some (.ref p), some (.ref C1), some (.ref PL), some (vn i), x5, none, none, none, none, none] ∧ Ev S H H' ∧ H' C1 = some (.lst (cs.map vn)) ∧ H' PL = some (.lst (as.map V.ref)) ∧ PlAt H' as ps ∧ ps[0]? = some (some 0, 0) ∧ (∀ pl ∈ ps, ∃ q c, pl = (some q, c) ∧ q < rs.length) ∧ (∀ q c', (q < i ∧ c' < cs.getD q 0) ∨ (q = i ∧ c' < c) → (some q, c') ∈ ps) ∧ ps.length ≤ 1 + 2 * i + c)
          ⟨x5, as, ps, rfl, e5, hC5, hPL5, hPA5, h0, hrg, fun q c' h => by
            rcases h with h | h
            · exact hcv q c' h.1 h.2
            · exact absurd h.2 (Nat.not_lt_zero _), hpl⟩ (fun c σ H' hc hq => ?_) (fun σ H' hq => ?_)
        · obtain ⟨x5, as, ps, rfl, e5, hC5, hPL5, hPA5, h0, hrg, hcv, hpl⟩ := hq
          have hS5 := e5.src
          have hasl : as.length = ps.length := hPA5.length
          have hpp : 0 < ps.length := (List.getElem?_eq_some_iff.mp h0).1
          walk_at "go"
          refine iteD (fun hx => ?_) (fun hx => ?_)
          · walk_at "go"
            rw [List.length_map, hasl]
            refine ⟨S, a, _, rfl, ha, hS5, by omega, by omega, fun d H6 g0 g1 e6 => ?_⟩
            obtain ⟨d, rfl⟩ := Int.eq_ofNat_of_zero_le g0
            walk_at "go"
            refine ⟨sz2, fun TT hTT => ?_⟩
            have e7 := Ev.laid (o := .tup [.int (i : Int), .int (c : Int)]) e6.src hTT
            have hPL7 := e7.at hPS (e6.at hPS hPL5)
            have hC7 := e7.at hCS (e6.at hCS hC5)
            have hPA7 := (hPA5.ev hS5 e6).ev e6.src e7
            have hT7 : (upd H6 TT (.tup [.int (i : Int), .int (c : Int)])) TT = some (.tup [.int (fI ((some i, c) : Plc).1), vn c]) := upd_same
            have e57 := e5.trans (e6.trans e7)
            generalize upd H6 TT (.tup [.int (i : Int), .int (c : Int)]) = H7 at *
            walk_at "go"
            rw [show ((1 : Int) + (d : Int)) = ((1 + d : Nat) : Int) by omega]
            refine i_insert hPL7 (by rw [List.length_map]; omega) (by omega) ?_
            walk_at "go"
            have hnt : ∀ vs, H7 PL ≠ some (.tup vs) := by
              intro vs
              rw [hPL7]
              intro z
              cases z
            refine ⟨_, as.take (1 + d) ++ [TT] ++ as.drop (1 + d), ps.take (1 + d) ++ [(some i, c)] ++ ps.drop (1 + d), rfl, Ev.put hS e57 hPLH, by rw [upd_ne hCP]; exact hC7, by rw [upd_same, List.map_append, List.map_append, List.map_take, List.map_drop]; rfl, (hPA7.ins hT7 (1 + d)).upd hnt, ins_0 (by omega) h0, fun pl hpl => ?_, fun q c' h => ?_, by rw [ins_len]; omega⟩
            · rcases ins_mem.mp hpl with h | h
              · exact hrg pl h
              · exact ⟨i, c, h, hi⟩
            · refine ins_mem.mpr ?_
              by_cases e : q = i ∧ c' = c
              · exact .inr (by rw [e.1, e.2])
              · exact .inl (hcv q c' (by omega))
          · walk_at "go"
            have e0 : i = 0 ∧ c = 0 := by omega
            refine ⟨_, as, ps, rfl, e5, hC5, hPL5, hPA5, h0, hrg, fun q c' h => ?_, by omega⟩
            rcases h with h | h
            · exact hcv q c' (.inl h)
            · rw [h.1, e0.1, show c' = 0 by omega]
              exact List.mem_of_getElem? h0
        · obtain ⟨x5, as, ps, rfl, e5, hC5, hPL5, hPA5, h0, hrg, hcv, hpl⟩ := hq
          refine ⟨_, _, as, ps, rfl, e5, hC5, hPL5, hPA5, h0, hrg, fun q c' hq hc' => hcv q c' ?_, by omega⟩
          by_cases e : q = i
          · exact .inr ⟨e, by rw [e, hcd] at hc'; exact hc'⟩
          · exact .inl ⟨by omega, hc'⟩
      · obtain ⟨x4, x5, as, ps, rfl, e5, hC5, hPL5, hPA5, h0, hrg, hcv, hpl⟩ := hq
        have hS5 := e5.src
        have hasl : as.length = ps.length := hPA5.length
        have hpp : 0 < ps.length := (List.getElem?_eq_some_iff.mp h0).1
        have hN : ps.length ≤ 60 := by omega
        walk_at "go"
        refine ⟨by decide, fun Mv hMv => ?_⟩
        have e6 := Ev.laid (o := .lst []) hS5 hMv
        have hMS : ¬ S Mv := hS5.notin hMv
        have hMH : H Mv = none := Ev.free e5 hMv
        have e06 := e5.trans e6
        have hC6 := e6.at hCS hC5
        have hPL6 := e6.at hPS hPL5
        have hPA6 := hPA5.ev hS5 e6
        have hM6 : (upd H' Mv (.lst [])) Mv = some (.lst (([] : List Addr).map V.ref)) := upd_same
        have hPM : PL ≠ Mv := ne_of_none hPL5 hMv
        have hCM : C1 ≠ Mv := ne_of_none hC5 hMv
        generalize upd H' Mv (.lst []) = H6 at *
        walk_at "go"
        refine seq_for (t := false) hPL6 (fun i σ H7 => ∃ (x7 x8 x9 : Option V) (bs : List Addr) (rws : Rws), σ = [some (.ref a), some (.ref p), some (.ref C1), some (.ref PL), x4, x5, some (.ref Mv), x7, x8, x9, none] ∧ Ev S H H7 ∧ H7 C1 = some (.lst (cs.map vn)) ∧ H7 PL = some (.lst (as.map V.ref)) ∧ PlAt H7 as ps ∧ H7 Mv = some (.lst (bs.map V.ref)) ∧ Paired (fun a r => Ints (fun b => S b ∨ b = Mv) H7 a r) bs rws ∧ rws.length = i ∧ (∀ r ∈ rws, r.length = m ∧ ∀ t ∈ r, t < ps.length))
          ⟨none, none, none, [], [], rfl, e06, hC6, hPL6, hPA6, hM6, .nil, rfl, by simp⟩ (fun i σ H7 _ ⟨_, _, _, _, _, _, _, _, h, _⟩ => h) (fun i v σ H7 hv hq => ?_) (fun σ H7 hq => ?_)
        · obtain ⟨x7, x8, x9, bs, rws, rfl, e7, hC7, hPL7, hPA7, hM7, hbs, hrl, hrw⟩ := hq
          have hS7 := e7.src
          obtain ⟨b, hb1, rfl⟩ := at_map hv
          obtain ⟨pl, hpl1, hb2⟩ := Paired.at0 hPA7 hb1
          obtain ⟨q, c, rfl, hqn⟩ := hrg pl (List.mem_of_getElem? hpl1)
          have hb2 : H7 b = some (.tup [vn q, vn c]) := hb2
          have hi := (List.getElem?_eq_some_iff.mp hpl1).1
          walk_at "go"
          refine ⟨by decide, fun Rw hRw => ?_⟩
          have hRS : ¬ S Rw := hS7.notin hRw
          have eR := Ev.laid (o := .lst []) hS7 hRw
          have hR8 : (upd H7 Rw (.lst [])) Rw = some (.lst (([] : List Nat).map vn)) := upd_same
          have hRM : Rw ≠ Mv := (ne_of_none hM7 hRw).symm
          have hb8 := eR.tup hS7 hb2
          generalize upd H7 Rw (.lst []) = H8 at *
          have e08 := e7.trans eR
          have hp18 := e08.at hpS hp1
          obtain ⟨tq, vq, aq, hq1, hq2, hq3, hq4, tq5, hq6⟩ := (hp2.ev e7).at hqn
          have hwr := hw.b.row_len hqn
          walk_at "go"
          refine i_ixQ (eR.at hmS hq1) (i := (q : Int)) hq3 ?_
          refine seq_for (t := tq5) (xs := (row rs q).map vn) (eR.at hq4 hq6) (fun t σ H9 => ∃ (x9 : Option V) (r : List Nat), σ = [some (.ref a), some (.ref p), some (.ref C1), some (.ref PL), x4, x5, some (.ref Mv), some (.ref b), some (.ref Rw), x9, none] ∧ Ev S H7 H9 ∧ H9 Rw = some (.lst (r.map vn)) ∧ r.length = t ∧ (∀ v ∈ r, v < ps.length))
            ⟨x9, [], rfl, eR, hR8, rfl, by simp⟩ (fun t σ H9 _ ⟨_, _, _, e, _⟩ => e.at hq4 hq6) (fun t v σ H9 hv hq => ?_) (fun σ H9 hq => ?_)
          · obtain ⟨y9, r, rfl, e9, hR9, hrl9, hrv⟩ := hq
            obtain ⟨y, hy, rfl⟩ := at_map hv
            have hyn : y < rs.length := hw.b.row_lt hqn (List.mem_of_getElem? hy)
            have hyt := (List.getElem?_eq_some_iff.mp hy).1
            obtain ⟨cy, hcy, hcyd, hcy1, hcy2⟩ := hct y hyn
            have hC9 := e9.at hCS hC7
            have hPL9 := e9.at hPS hPL7
            have hPA9 := hPA7.ev hS7 e9
            have hS9 := e9.src
            walk_at "go"
            refine i_ixL hC9 (vn_at hcy) ?_
            walk_at "go"
            refine ⟨S, a, _, rfl, ha, hS9, by omega, by omega, fun d H10 g0 g1 e10 => ?_⟩
            obtain ⟨d, rfl⟩ := Int.eq_ofNat_of_zero_le g0
            walk_at "go"
            refine ⟨sz2, fun TT hTT => ?_⟩
            have e11 := Ev.laid (o := .tup [.int (y : Int), .int (d : Int)]) e10.src hTT
            walk_at "go"
            have hmem := hcv y d hyn (by omega)
            have hPL11 := e11.at hPS (e10.at hPS hPL9)
            have hPA11 := (hPA9.ev hS9 e10).ev e10.src e11
            refine i_plIdx (p := (some y, d)) hPL11 hPA11 upd_same hmem ?_
            walk_at "go"
            refine i_append (e11.at hRS (e10.at hRS hR9)) (by rw [List.length_map]; omega) ?_
            walk_at "go"
            refine ⟨_, r ++ [U.pl ps (some y, d)], rfl, Ev.put hS7 (e9.trans (e10.trans e11)) hRw, by rw [upd_same, List.map_append]; rfl, by simp [hrl9], fun v hv => ?_⟩
            · rcases List.mem_append.mp hv with h | h
              · exact hrv v h
              · rw [List.mem_singleton.mp h]; exact pl_lt hmem
          · obtain ⟨y9, r, rfl, e9, hR9, hrl9, hrv⟩ := hq
            rw [List.length_map, hwr] at hrl9
            have hS9 := e9.src
            have hM9 := e9.at hMS hM7
            have hbl : bs.length = rws.length := hbs.length
            walk_at "go"
            refine i_append (xs := bs.map V.ref) hM9 (by rw [List.length_map, hbl]; omega) ?_
            walk_at "go"
            have hMn : ∀ vs, H9 Mv ≠ some (.tup vs) := by
              intro vs
              rw [hM9]
              intro z
              cases z
            refine ⟨_, _, _, bs ++ [Rw], rws ++ [r], rfl, Ev.put hS (e7.trans e9) hMH, by rw [upd_ne hCM]; exact e9.at hCS hC7, by rw [upd_ne hPM]; exact e9.at hPS hPL7, (hPA7.ev hS7 e9).upd hMn, by rw [upd_same, List.map_append]; rfl, ?_, by simp [hrl], fun r' hr' => ?_⟩
            · have kk : Kp (fun b => S b ∨ b = Mv) H7 (upd H9 Mv (.lst (bs.map V.ref ++ [V.ref Rw]))) := fun b u n z => by
                rw [upd_ne (fun y => n (.inr y))]
                exact e9.kp b u (fun y => n (.inl y)) z
              exact U.Paired.snoc (Paired.mapP hbs fun b r z => z.kp kk fun _ z => z) ⟨fun z => z.elim hRS hRM, false, by rw [upd_ne hRM]; exact hR9⟩
            · rcases List.mem_append.mp hr' with h | h
              · exact hrw r' h
              · rw [List.mem_singleton.mp h]; exact ⟨hrl9, hrv⟩
        · obtain ⟨x7, x8, x9, bs, rws, rfl, e7, hC7, hPL7, hPA7, hM7, hbs, hrl, hrw⟩ := hq
          have hS7 := e7.src
          rw [List.length_map, hasl] at hrl
          walk_at "go"
          rw [List.length_map, hasl]
          refine ⟨by omega, by omega, fun G hG => ?_⟩
          rw [Int.toNat_natCast]
          have hg7 := e7.at hgS hp4
          have hp17 := e7.at hpS hp1
          refine rng0_lc (FilInv S H7 G) (FilInv.start hS7 hG) (fun i H8 hi hz => ?_) (fun H8 hz => ?_)
          · have e8 := hz.1
            obtain ⟨pl, hpl1⟩ : ∃ pl, ps[i]? = some pl := ⟨_, List.getElem?_eq_getElem hi⟩
            obtain ⟨b, hb1, hb2⟩ := Paired.at1 hPA7 hpl1
            obtain ⟨q, c, rfl, hqn⟩ := hrg pl (List.mem_of_getElem? hpl1)
            have hb8 : H8 b = some (.tup [vn q, vn c]) := e8.tup hS7 hb2
            have hPL8 := e8.at hPS hPL7
            have hg8 := e8.at hgS hg7
            have hp18 := e8.at hpS hp17
            walk_at "go"
            refine i_ixL hPL8 (v := .ref b) (atI_nat (map_at hb1)) ?_
            walk_at "go"
            refine i_inI hg8 ?_
            walk_at "go"
            refine iteB (fun hb => ?_) (fun hb => ?_)
            · walk_at "go"
              exact hz.add hS7 hG (.refl hz.src) (by omega)
            · exact hz.skip hS7 hG (.refl hz.src)
          · obtain ⟨gn, hgn, hgo⟩ := hz.done hS7 hG
            have e8 := hz.1
            walk_at "go"
            refine ⟨sz2, fun q hq => ?_⟩
            have e10 := Ev.laid (o := .tup [.ref Mv, .ref G]) e8.src hq
            have hwf : WF m rws := wf_of hrl (fun r hr => hrw r hr) (by omega) hN hm3
            exact k q rws gn _ (e7.trans (e8.trans e10)) ⟨e8.src.notin hq, Mv, G, upd_same, ⟨hMS, false, bs, (e8.trans e10).at hMS hM7, Paired.mapP hbs fun _ _ z => ((z.weak fun _ y => .inl y).ev e8).ev e10⟩, hgn.ev e10⟩ hwf (by rw [hrl]; exact hgo)
end
abbrev s_law_rings : Stmt := top 73
theorem sc_law_rings : FnScope ["source", "many", "menu", "a", "b", "met_v", "at", "k", "first", "second", "p", "t", "q"] ["source", "many"] (fnScope s_law_rings) := ⟨rfl, rfl, rfl, by decide +kernel, rfl, by decide +kernel, by decide +kernel⟩
def menuR : List (List Int) := [[2, 3], [3, 4], [5, 8], [4, 7], [13, 21], [7, 9], [31, 29], [59, 60], [8, 5], [9, 10]]
theorem menuR_ok : ∀ xs ∈ menuR, ∃ a b : Nat, xs = [(a : Int), (b : Int)] ∧ 0 < a ∧ 0 < b ∧ a ≤ 60 ∧ b ≤ 60 := by
  intro xs h
  simp only [menuR, List.mem_cons, List.not_mem_nil, or_false] at h
  rcases h with h | h | h | h | h | h | h | h | h | h <;> subst h
  · exact ⟨2, 3, rfl, by decide⟩
  · exact ⟨3, 4, rfl, by decide⟩
  · exact ⟨5, 8, rfl, by decide⟩
  · exact ⟨4, 7, rfl, by decide⟩
  · exact ⟨13, 21, rfl, by decide⟩
  · exact ⟨7, 9, rfl, by decide⟩
  · exact ⟨31, 29, rfl, by decide⟩
  · exact ⟨59, 60, rfl, by decide⟩
  · exact ⟨8, 5, rfl, by decide⟩
  · exact ⟨9, 10, rfl, by decide⟩
theorem gok_ints {ks : List Int} {n : Nat} (hp : ks.Pairwise (· < ·)) (h : ∀ k ∈ ks, ∃ t : Nat, t < n ∧ k = (t : Int)) : GOK n (ks.map Int.toNat) ∧ ks.map V.int = (ks.map Int.toNat).map vn := by
  have h0 : ∀ k ∈ ks, 0 ≤ k := fun k hk => by
    obtain ⟨t, _, e⟩ := h k hk
    omega
  refine ⟨⟨ints_lt h0 hp, fun x hx => ?_⟩, ints_nat h0⟩
  obtain ⟨k, hk, rfl⟩ := List.mem_map.mp hx
  obtain ⟨t, ht, e⟩ := h k hk
  omega
def sp_law_rings : Sp := fun vs H Q _ => ∃ (S : AS) (a : Addr) (m : Nat), vs = [.ref a, .int (m : Int)] ∧ S a ∧ Srcs S H ∧ 0 < m ∧ m ≤ 3 ∧ ∀ p u v A gA B gB H', Ev S H H' → ¬ S p → H' p = some (.lst [.ref u, .ref v]) → Mach S H' u A gA → WF m A → GOK A.length gA → Mach S H' v B gB → WF m B → GOK B.length gB → Q (.ref p) H'
section
variable {P : Program} {w : World} {K : PySem.W.Frag} {mg : Str → Option Value} {base : Heap} {C : Addr} {r : Er}
set_option maxHeartbeats 4000000 in
theorem ok_law_rings {f : Addr} {fd : FuncData} (F : Def K mg "_law_rings" s_law_rings f fd) (T : Txt K mg C r) (b : Binds K fd ["source", "many"] []) (c_law_pick : Cal P w K mg base 1 "_law_pick" sp_law_pick []) : Cal P w K mg base 2 "_law_rings" (sp_law_rings) [] := by
  refine cal0 F b .nil sc_law_rings (fun vs H Q E h => ?_) (fun cdv A outer s H vs Q E hr h => ?_)
  · obtain ⟨_, _, _, rfl, _⟩ := h
    rfl
  · obtain ⟨S, a, m, rfl, ha, hS, hm0, hm, k⟩ := h
    refine ⟨_, (pss_cons (ps_set (i := 2) sc_law_rings.nd rfl (by first | exact Or.inl rfl | exact Or.inr rfl) (pe_lst (pa_cons (pe_tup (pa_cons pe_int (pa_cons pe_int pa_nil))) (pa_cons (pe_tup (pa_cons pe_int (pa_cons pe_int pa_nil))) (pa_cons (pe_tup (pa_cons pe_int (pa_cons pe_int pa_nil))) (pa_cons (pe_tup (pa_cons pe_int (pa_cons pe_int pa_nil))) (pa_cons (pe_tup (pa_cons pe_int (pa_cons pe_int pa_nil))) (pa_cons (pe_tup (pa_cons pe_int (pa_cons pe_int pa_nil))) (pa_cons (pe_tup (pa_cons pe_int (pa_cons pe_int pa_nil))) (pa_cons (pe_tup (pa_cons pe_int (pa_cons pe_int pa_nil))) (pa_cons (pe_tup (pa_cons pe_int (pa_cons pe_int pa_nil))) (pa_cons (pe_tup (pa_cons pe_int (pa_cons pe_int pa_nil))) pa_nil))))))))))))
        (pss_cons (ps_asg (pe_ix (ixK K rfl) (pv 2) (pe_c c_law_pick hr (by decide) rfl (pa_cons (pv 0) (pa_cons (pe_callB (lenK K rfl) (by rfl) T.b_len (by decide +kernel) (pa_cons (pv 2) pa_nil)) pa_nil))) (fun _ _ => rfl)) (pg_tup rfl (pgs_cons (pg_name (i := 3) sc_law_rings.nd rfl (by first | exact Or.inl rfl | exact Or.inr rfl)) (pgs_cons (pg_name (i := 4) sc_law_rings.nd rfl (by first | exact Or.inl rfl | exact Or.inr rfl)) pgs_nil))))
        (pss_cons (ps_set (i := 5) sc_law_rings.nd rfl (by first | exact Or.inl rfl | exact Or.inr rfl) (pe_lst (pa_cons pe_int pa_nil)))
        (pss_cons (ps_for PassesOwn.never rfl (pi_range1 (by rfl) T.b_range (pa_cons (pe_op op_add (pv 3) (pv 4)) pa_nil)) (pg_name (i := 6) sc_law_rings.nd rfl (by first | exact Or.inl rfl | exact Or.inr rfl))
        (pss_one (ps_if (pt_cmpR op_lt (pv 6) (pe_callB (lenK K rfl) (by rfl) T.b_len (by decide +kernel) (pa_cons (pv 5) pa_nil)) (nomark _)) (pss_one (ps_for PassesOwn.never rfl (seqK K rfl (pe_lst (pa_cons (pe_op op_sub (pe_ix (ixK K rfl) (pv 5) (pv 6) (fun _ _ => rfl)) (pv 3)) (pa_cons (pe_op op_add (pe_ix (ixK K rfl) (pv 5) (pv 6) (fun _ _ => rfl)) (pv 3)) (pa_cons (pe_op op_sub (pe_ix (ixK K rfl) (pv 5) (pv 6) (fun _ _ => rfl)) (pv 4)) (pa_cons (pe_op op_add (pe_ix (ixK K rfl) (pv 5) (pv 6) (fun _ _ => rfl)) (pv 4)) pa_nil)))))) (pg_name (i := 7) sc_law_rings.nd rfl (by first | exact Or.inl rfl | exact Or.inr rfl))
        (pss_one (ps_if (PW.pt (pw_and (pt_chain op_le op_lt pe_int (pv 7) (pe_op op_sub (pe_op op_add (pv 3) (pv 4)) pe_int)) (pw_and1 (pt_cmpR (notInK K rfl) (pv 7) (pv 5) rfl)))) (pss_one (ps_expr (bmK K rfl (pe_bm PySem.F.plainAttrs_list PySem.F.slot_list_append PySem.F.type_list_append mt_append (pv 5) (pa_cons (pv 7) pa_nil))))) pss_nil)))) pss_nil)))
        (pss_cons (ps_setLc (i := 8) (own := [("p", 10)]) rfl sc_law_rings.nd rfl rfl (sw_true rfl rfl rfl (by decide +kernel)) (pi_range1 (by rfl) T.b_range (pa_cons (pv 3) pa_nil)) (blkOk_by (by kernel_rfl)) (fun _ _ _ _ _ => (pg_name (i := 10) sc_law_rings.nd rfl (by first | exact Or.inl rfl | exact Or.inr rfl))) (fun _ _ _ _ _ => pts_nil) (fun _ _ _ _ _ => (pe_lc (own := [("t", 11)]) rfl sc_law_rings.nd (pi_range1 (by rfl) T.b_range (pa_cons (pv 1) pa_nil)) (blkOk_by (by kernel_rfl)) (fun _ _ _ _ _ => (pg_name (i := 11) sc_law_rings.nd rfl (by first | exact Or.inl rfl | exact Or.inr rfl))) (fun _ _ _ _ _ => pts_nil) (fun _ _ _ _ _ => (pe_op op_mod (pe_callTy int1 (by rfl) T.b_int (by decide +kernel) (pa_cons (pe_op op_add (pv 10) pe_int) pa_nil)) (pv 3))))))
        (pss_cons (ps_setLc (i := 9) (own := [("q", 12)]) rfl sc_law_rings.nd rfl rfl (sw_true rfl rfl rfl (by decide +kernel)) (pi_range1 (by rfl) T.b_range (pa_cons (pv 4) pa_nil)) (blkOk_by (by kernel_rfl)) (fun _ _ _ _ _ => (pg_name (i := 12) sc_law_rings.nd rfl (by first | exact Or.inl rfl | exact Or.inr rfl))) (fun _ _ _ _ _ => pts_nil) (fun _ _ _ _ _ => (pe_lc (own := [("t", 11)]) rfl sc_law_rings.nd (pi_range1 (by rfl) T.b_range (pa_cons (pv 1) pa_nil)) (blkOk_by (by kernel_rfl)) (fun _ _ _ _ _ => (pg_name (i := 11) sc_law_rings.nd rfl (by first | exact Or.inl rfl | exact Or.inr rfl))) (fun _ _ _ _ _ => pts_nil) (fun _ _ _ _ _ => (pe_op op_mod (pe_callTy int1 (by rfl) T.b_int (by decide +kernel) (pa_cons (pe_op op_add (pv 12) pe_int) pa_nil)) (pv 4))))))
        (pss_one (ps_ret (pe_lst (pa_cons (pe_tup (pa_cons (pv 8) (pa_cons (sortSetK K rfl (by rfl) T.b_sorted (by rfl) T.b_set (pe_lc (own := [("k", 7)]) rfl sc_law_rings.nd (seqK K rfl (pv 5)) (blkOk_by (by kernel_rfl)) (fun _ _ _ _ _ => (pg_name (i := 7) sc_law_rings.nd rfl (by first | exact Or.inl rfl | exact Or.inr rfl))) (fun _ _ _ _ _ => pts_nil) (fun _ _ _ _ _ => (pe_op op_mod (pe_callTy int1 (by rfl) T.b_int (by decide +kernel) (pa_cons (pv 7) pa_nil)) (pv 3))))) pa_nil))) (pa_cons (pe_tup (pa_cons (pv 9) (pa_cons (sortSetK K rfl (by rfl) T.b_sorted (by rfl) T.b_set (pe_lc (own := [("k", 7)]) rfl sc_law_rings.nd (seqK K rfl (pv 5)) (blkOk_by (by kernel_rfl)) (fun _ _ _ _ _ => (pg_name (i := 7) sc_law_rings.nd rfl (by first | exact Or.inl rfl | exact Or.inr rfl))) (fun _ _ _ _ _ => pts_nil) (fun _ _ _ _ _ => (pe_op op_mod (pe_callTy int1 (by rfl) T.b_int (by decide +kernel) (pa_cons (pv 7) pa_nil)) (pv 4))))) pa_nil))) pa_nil))))))))))), ?_⟩
    walk_at "go"
    have fin : ∀ (H0 : Hp) (D1 D2 G1 G2 : Addr) (A B : Rws) (gA gB : List Nat) (H1 H2 : Hp) (u v p : Addr), Ev S H H0 → Rows S H0 D1 A → Rows S H0 D2 B → WF m A → WF m B → GOK A.length gA → GOK B.length gB → Ev S H0 H1 → Ints S H1 G1 gA → H1 u = none → Ev S (upd H1 u (.tup [.ref D1, .ref G1])) H2 → Ints S H2 G2 gB → H2 v = none → (upd H2 v (.tup [.ref D2, .ref G2])) p = none →
        Q (.ref p) (upd (upd H2 v (.tup [.ref D2, .ref G2])) p (.lst [.ref u, .ref v])) := fun H0 D1 D2 G1 G2 A B gA gB H1 H2 u v p e0 hA hB wA wB oA oB e1 i1 hu e2 i2 hv hp => by
      have eu : Ev S H1 (upd H1 u (.tup [.ref D1, .ref G1])) := .laid e1.src hu
      have ev : Ev S H2 (upd H2 v (.tup [.ref D2, .ref G2])) := .laid e2.src hv
      have ep : Ev S (upd H2 v (.tup [.ref D2, .ref G2])) (upd (upd H2 v (.tup [.ref D2, .ref G2])) p (.lst [.ref u, .ref v])) := .laid ev.src hp
      have hu2 : ¬ S u := e1.src.notin hu
      have hv2 : ¬ S v := e2.src.notin hv
      have e2p := ev.trans ep
      have e1p := e2.trans e2p
      have e0p := eu.trans e1p
      refine k p u v A gA B gB _ ((e0.trans e1).trans e0p) (ev.src.notin hp) upd_same ⟨hu2, D1, G1, e1p.at hu2 upd_same, (hA.ev e1).ev e0p, i1.ev e0p⟩ wA oA ⟨hv2, D2, G2, ep.at hv2 upd_same, ((hB.ev e1).ev eu).ev e1p, i2.ev e2p⟩ wB oB
    refine ⟨sz2, fun p0 hp0 => ?_⟩
    have e2 := Ev.laid (o := .tup [.int 2, .int 3]) hS hp0
    refine tMenu_read [[3, 4], [5, 8], [4, 7], [13, 21], [7, 9], [31, 29], [59, 60], [8, 5], [9, 10]] _ _ (by decide) fun as H2 s2 has => ?_
    have has2 : Paired (fun a (xs : List Int) => H2 a = some (.tup (xs.map V.int))) (p0 :: as) menuR := .cons (s2 _ _ upd_same) (Paired.mapP has fun _ _ z => z.2)
    have e3 := e2.trans (Ev.of_same e2.src s2)
    refine ⟨szl (by rw [List.length_cons, List.length_map, has.length]; decide), fun L hL => ?_⟩
    have e4 := Ev.laid (o := .lst ((p0 :: as).map V.ref)) e3.src hL
    have hLm : (upd H2 L (.lst ((p0 :: as).map V.ref))) L = some (.lst ((p0 :: as).map V.ref)) := upd_same
    have hLS := e3.src.notin hL
    have has3 : Paired (fun a (xs : List Int) => (upd H2 L (.lst ((p0 :: as).map V.ref))) a = some (.tup (xs.map V.int))) (p0 :: as) menuR := Paired.mapP has2 fun _ _ z => e4.tup e3.src z
    have hlen : (p0 :: as).length = 10 := has2.length
    have e04 := e3.trans e4
    have hreq : (HO.lst (V.ref p0 :: as.map V.ref)) = HO.lst ((p0 :: as).map V.ref) := rfl
    rw [hreq]
    generalize upd H2 L (.lst ((p0 :: as).map V.ref)) = H4 at *
    walk_at "go"
    rw [List.length_map, hlen]
    refine ⟨S, a, _, rfl, ha, e04.src, by decide, by decide, fun d H5 g2 g3 e5 => ?_⟩
    obtain ⟨d, rfl⟩ := Int.eq_ofNat_of_zero_le g2
    obtain ⟨ad, xs, had, hxs, hat⟩ := menu_at has3 (d := d) (by show d < 10; omega)
    obtain ⟨a', b', rfl, ha0, hb0, ha1, hb1⟩ := menuR_ok xs hxs
    walk_at "go"
    refine i_ixL (e5.at hLS hLm) (v := .ref ad) (atI_nat (map_at had)) ?_
    have hat5 : H5 ad = some (.tup [.int (a' : Int), .int (b' : Int)]) := e5.tup e04.src hat
    walk_at "go"
    have e05 := e04.trans e5
    have hS5 := e05.src
    refine ⟨sz1, fun Mt hMt => ?_⟩
    have hMS : ¬ S Mt := hS5.notin hMt
    walk_at "go"
    rw [show ((a' : Int) + (b' : Int)) = ((a' + b' : Nat) : Int) by omega]
    refine ⟨by omega, by omega, ?_⟩
    rw [Int.toNat_natCast]
    refine rng0_for (n := a' + b') (fun i σ H6 => ∃ (x6 x7 : Option V) (ns : List Nat), σ = [some (.ref a), some (.int (m : Int)), some (.ref L), some (.int (a' : Int)), some (.int (b' : Int)), some (.ref Mt), x6, x7, none, none, none, none, none] ∧ Same H5 H6 ∧ H6 Mt = some (.lst (ns.map vn)) ∧ ns.length ≤ 1 + 4 * i)
      ⟨none, none, [0], rfl, same_laid hMt, upd_same, by simp⟩ (fun i σ H6 hi hq => ?_) (fun σ H6 hq => ?_)
    · obtain ⟨x6, x7, ns, rfl, s6, hM6, hnl⟩ := hq
      walk_at "go"
      rw [List.length_map]
      refine iteD (fun hx => ?_) (fun hx => ?_)
      · have hxi : i < ns.length := by
          have : (i : Int) < (ns.length : Int) := hx
          omega
        obtain ⟨c, hc⟩ : ∃ c, ns[i]? = some c := ⟨_, List.getElem?_eq_getElem hxi⟩
        walk_at "go"
        refine i_ixL hM6 (vn_at hc) ?_
        walk_at "go"
        refine i_ixL hM6 (vn_at hc) ?_
        walk_at "go"
        refine i_ixL hM6 (vn_at hc) ?_
        walk_at "go"
        refine i_ixL hM6 (vn_at hc) ?_
        walk_at "go"
        refine ⟨szl (by show 4 ≤ 16777216; decide), fun D hD => ?_⟩
        have hDM : D ≠ Mt := (ne_of_none hM6 hD).symm
        generalize hxs4 : [V.int ((c : Int) - (a' : Int)), V.int ((c : Int) + (a' : Int)), V.int ((c : Int) - (b' : Int)), V.int ((c : Int) + (b' : Int))] = xs
        have hxl : xs.length = 4 := by rw [← hxs4]; rfl
        have hxv : ∀ v ∈ xs, ∃ z : Int, v = .int z := fun v hv => by
          rw [← hxs4] at hv
          simp only [List.mem_cons, List.not_mem_nil, or_false] at hv
          rcases hv with h | h | h | h <;> exact ⟨_, h⟩
        refine seq_for (t := false) upd_same (fun j σ H7 => ∃ (x7 : Option V) (ns : List Nat), σ = [some (.ref a), some (.int (m : Int)), some (.ref L), some (.int (a' : Int)), some (.int (b' : Int)), some (.ref Mt), some (vn i), x7, none, none, none, none, none] ∧ Same H5 H7 ∧ H7 D = some (.lst xs) ∧ H7 Mt = some (.lst (ns.map vn)) ∧ ns.length ≤ 1 + 4 * i + j)
          ⟨_, ns, rfl, s6.trans (same_laid hD), upd_same, by rw [upd_ne hDM.symm]; exact hM6, hnl⟩ (fun j σ H7 _ ⟨_, _, _, _, h, _⟩ => h) (fun j v σ H7 hv hq => ?_) (fun σ H7 hq => ?_)
        · obtain ⟨y7, ns, rfl, s7, hD7, hM7, hnl⟩ := hq
          obtain ⟨z, rfl⟩ := hxv v (List.mem_of_getElem? hv)
          have hj4 := (List.getElem?_eq_some_iff.mp hv).1
          walk_at "go"
          refine iteD (fun hz0 => ?_) (fun hz0 => ?_)
          · obtain ⟨z, rfl⟩ := Int.eq_ofNat_of_zero_le hz0
            walk_at "go"
            refine iteD (fun hz1 => ?_) (fun hz1 => ?_)
            · walk_at "go"
              refine i_notInI (t := false) hM7 ?_
              walk_at "go"
              refine iteDN (fun hn => ?_) (fun hn => ?_)
              · walk_at "go"
                refine i_append hM7 (by rw [List.length_map]; omega) ?_
                walk_at "go"
                exact ⟨_, ns ++ [z], rfl, Same.put s7 hMt, by rw [upd_ne hDM]; exact hD7, by rw [upd_same, List.map_append]; rfl, by rw [List.length_append]; show ns.length + 1 ≤ _; omega⟩
              · walk_at "go"
                exact ⟨_, ns, rfl, s7, hD7, hM7, by omega⟩
            · walk_at "go"
              exact ⟨_, ns, rfl, s7, hD7, hM7, by omega⟩
          · walk_at "go"
            exact ⟨_, ns, rfl, s7, hD7, hM7, by omega⟩
        · obtain ⟨y7, ns, rfl, s7, hD7, hM7, hnl⟩ := hq
          rw [hxl] at hnl
          walk_at "go"
          exact ⟨_, _, ns, rfl, s7, hM7, by omega⟩
      · walk_at "go"
        exact ⟨_, _, ns, rfl, s6, hM6, by omega⟩
    · obtain ⟨x6, x7, ns, rfl, s6, hM6, hnl⟩ := hq
      have e6 := Ev.of_same hS5 s6
      have e06 := e05.trans e6
      have hS6 := e06.src
      walk_at "go"
      refine ⟨by omega, by omega, fun D hD => ?_⟩
      rw [Int.toNat_natCast]
      refine rng0_lc (RowInv S H6 D m a') (RowInv.start hS6 hD) (fun i H7 hi hz => ?_) (fun H7 hz => ?_)
      · walk_at "go"
        refine ⟨by omega, by omega, fun E hE => ?_⟩
        rw [Int.toNat_natCast]
        refine rng0_lc (CelInv S H7 E a') (CelInv.start hz.src hE) (fun j H8 hj hc => ?_) (fun H8 hc => ?_)
        · walk_at "go"
          exact hc.add hz.src hE (Ev.refl hc.src) (u := (i + 1) % a') (Nat.mod_lt _ ha0) (by omega)
        · exact hz.step hS6 hD hE hc (by omega)
      obtain ⟨A, hA, hAl, hAw⟩ := hz.done hS6 hD
      have e7 := hz.1
      walk_at "go"
      refine ⟨by omega, by omega, fun D2 hD2 => ?_⟩
      rw [Int.toNat_natCast]
      refine rng0_lc (RowInv S H7 D2 m b') (RowInv.start e7.src hD2) (fun i H8 hi hz2 => ?_) (fun H8 hz2 => ?_)
      · walk_at "go"
        refine ⟨by omega, by omega, fun E hE => ?_⟩
        rw [Int.toNat_natCast]
        refine rng0_lc (CelInv S H8 E b') (CelInv.start hz2.src hE) (fun j H9 hj hc => ?_) (fun H9 hc => ?_)
        · walk_at "go"
          exact hc.add hz2.src hE (Ev.refl hc.src) (u := (i + 1) % b') (Nat.mod_lt _ hb0) (by omega)
        · exact hz2.step e7.src hD2 hE hc (by omega)
      obtain ⟨B, hB, hBl, hBw⟩ := hz2.done e7.src hD2
      have e8 := hz2.1
      have wA := wf_of hAl hAw (by omega) (by omega) hm
      have wB := wf_of hBl hBw hb0 (by omega) hm
      have hS8 := e8.src
      have hM8 := (e7.trans e8).at hMS hM6
      have res : ∀ (n : Nat), 0 < n → n ≤ 60 → ∀ us : List Int, us.Nodup → (∀ k ∈ us, k ∈ (ns.map fun x => x % n).map Int.ofNat) → us.length < 64 := fun n hn0 hn us nd h => by
        have := ints_le (n := n) (fun k hk => by
          obtain ⟨t, ht, e⟩ := List.mem_map.mp (h k hk)
          obtain ⟨x, _, rfl⟩ := List.mem_map.mp ht
          exact ⟨x % n, Nat.mod_lt _ hn0, e.symm⟩) nd
        omega
      have resk : ∀ (n : Nat), 0 < n → ∀ ks : List Int, ks.Pairwise (· < ·) → (∀ k, k ∈ ks ↔ k ∈ (ns.map fun x => x % n).map Int.ofNat) → GOK n (ks.map Int.toNat) ∧ ks.map V.int = (ks.map Int.toNat).map vn := fun n hn0 ks hp h => gok_ints hp fun k hk => by
        obtain ⟨t, ht, e⟩ := List.mem_map.mp ((h k).mp hk)
        obtain ⟨x, _, rfl⟩ := List.mem_map.mp ht
        exact ⟨x % n, Nat.mod_lt _ hn0, e.symm⟩
      walk_at "go"
      refine seq_lc (t := false) (xs := ns.map vn) hM8 (fun E hE => ⟨fun j H9 => Same H8 H9 ∧ H9 E = some (.lst (((ns.take j).map fun x => x % a').map vn)), ⟨same_laid hE, upd_same⟩, fun j H9 _ ⟨e, _⟩ => e _ _ hM8, fun j v H9 hv hq => ?_, fun H9 hq => ?_⟩)
      · obtain ⟨s9, hE9⟩ := hq
        obtain ⟨x, hx, rfl⟩ := at_map hv
        walk_at "go"
        exact ⟨_, hE9, szlt (by rw [List.length_map, List.length_map, List.length_take]; omega), Same.put s9 hE, by rw [upd_same, take_at hx, List.map_append, List.map_append] <;> rfl⟩
      obtain ⟨s9, hE9⟩ := hq
      rw [List.length_map, List.take_length] at hE9
      refine ⟨E, (ns.map fun x => x % a').map Int.ofNat, rfl, SqL.of (by rw [hE9, show ((ns.map fun x => x % a').map Int.ofNat).map V.int = (ns.map fun x => x % a').map vn from List.map_map]), by rw [List.length_map, List.length_map]; omega, res a' ha0 ha1, fun ks G1 hks hmem hG1 => ?_⟩
      obtain ⟨ok1, ek1⟩ := resk a' ha0 ks hks hmem
      have e9 := Ev.of_same hS8 s9
      have e10 := Ev.laid (o := .lst (ks.map V.int)) e9.src hG1
      have hG1S := e9.src.notin hG1
      have hG10 : (upd H9 G1 (.lst (ks.map V.int))) G1 = some (.lst ((ks.map Int.toNat).map vn)) := by rw [upd_same, ek1]
      generalize (upd H9 G1 (.lst (ks.map V.int))) = H10 at *
      walk_at "go"
      refine ⟨sz2, fun u hu => ?_⟩
      have e810 := e9.trans e10
      have eu := Ev.laid (o := .tup [.ref D, .ref G1]) e810.src hu
      have hM11 := eu.at hMS (e810.at hMS hM8)
      walk_at "go"
      generalize hH11 : (upd H10 u (.tup [.ref D, .ref G1])) = H11 at *
      refine seq_lc (t := false) (xs := ns.map vn) hM11 (fun E2 hE2 => ⟨fun j H9 => Same H11 H9 ∧ H9 E2 = some (.lst (((ns.take j).map fun x => x % b').map vn)), ⟨same_laid hE2, upd_same⟩, fun j H9 _ ⟨e, _⟩ => e _ _ hM11, fun j v H9 hv hq => ?_, fun H12 hq => ?_⟩)
      · obtain ⟨s9, hE9⟩ := hq
        obtain ⟨x, hx, rfl⟩ := at_map hv
        walk_at "go"
        exact ⟨_, hE9, szlt (by rw [List.length_map, List.length_map, List.length_take]; omega), Same.put s9 hE2, by rw [upd_same, take_at hx, List.map_append, List.map_append] <;> rfl⟩
      obtain ⟨s12, hE12⟩ := hq
      rw [List.length_map, List.take_length] at hE12
      refine ⟨E2, (ns.map fun x => x % b').map Int.ofNat, rfl, SqL.of (by rw [hE12, show ((ns.map fun x => x % b').map Int.ofNat).map V.int = (ns.map fun x => x % b').map vn from List.map_map]), by rw [List.length_map, List.length_map]; omega, res b' hb0 hb1, fun ks2 G2 hks2 hmem2 hG2 => ?_⟩
      obtain ⟨ok2, ek2⟩ := resk b' hb0 ks2 hks2 hmem2
      have e12 := Ev.of_same eu.src s12
      have e13 := Ev.laid (o := .lst (ks2.map V.int)) e12.src hG2
      have hG2S := e12.src.notin hG2
      walk_at "go"
      refine ⟨sz2, fun v hv => ?_⟩
      walk_at "go"
      refine ⟨sz2, fun p hp => ?_⟩
      subst hH11
      exact fin H8 D D2 G1 G2 A B _ _ H10 _ u v p ((e06.trans e7).trans e8) (hA.ev e8) hB wA wB (by rw [hAl]; exact ok1) (by rw [hBl]; exact ok2) e810 ⟨hG1S, false, hG10⟩ hu (e12.trans e13) ⟨hG2S, false, by rw [upd_same, ek2]; rfl⟩ hv hp
end
abbrev s_law_both : Stmt := top 74
theorem sc_law_both : FnScope ["source", "second", "alphabet", "many", "way", "word", "cuts", "first", "other", "more", "k", "p", "t"] ["source", "second", "alphabet"] (fnScope s_law_both) := ⟨rfl, rfl, rfl, by decide +kernel, rfl, by decide +kernel, by decide +kernel⟩
theorem word_cons {al w z : List Nat} {d : Nat} (h : Word al w z) (hd : d < al.length) : Word al (d :: w) (al.getD d 0 :: z) := ⟨fun b hb => by
  rcases List.mem_cons.mp hb with rfl | hb
  · exact hd
  · exact h.1 b hb, by rw [h.2]; rfl⟩
def MG (S : AS) (m : Nat) (H : Hp) (p : Addr) (A : Rws) (g : List Nat) : Prop := Mach S H p A g ∧ WF m A ∧ GOK A.length g
theorem MG.ev {S : AS} {m : Nat} {H H' : Hp} {p : Addr} {A : Rws} {g : List Nat} (h : MG S m H p A g) (e : Ev S H H') : MG S m H' p A g := ⟨h.1.ev e, h.2⟩
def BothAt (S : AS) (H : Hp) (a a2 : Addr) (al : List Nat) (way : Nat) : L2.St → Hp → Prop := fun σ H' => ∃ u v A gA B gB x9, σ = [some (.ref a), some (.ref a2), some (.str (SX.S al)), some (vn al.length), some (vn way), none, none, some (.ref u), some (.ref v), x9, none, none, none] ∧ Ev S H H' ∧ MG S al.length H' u A gA ∧ MG S al.length H' v B gB ∧ A.length ≤ 8
def sp_law_both : Sp := fun vs H Q _ => ∃ (S : AS) (a b : Addr) (al : List Nat), vs = [.ref a, .ref b, .str (SX.S al)] ∧ S a ∧ S b ∧ Srcs S H ∧ AlOk al ∧ ∀ p u v A gA B gB H', Ev S H H' → ¬ S p → H' p = some (.lst [.ref u, .ref v]) → MG S al.length H' u A gA → MG S al.length H' v B gB → Q (.ref p) H'
section
variable {P : Program} {w : World} {K : PySem.W.Frag} {mg : Str → Option Value} {base : Heap} {C : Addr} {r : Er}
set_option maxHeartbeats 4000000 in
theorem ok_law_both {f : Addr} {fd : FuncData} (F : Def K mg "_law_both" s_law_both f fd) (T : Txt K mg C r) (b : Binds K fd ["source", "second", "alphabet"] []) (c_law_pick : Cal P w K mg base 1 "_law_pick" sp_law_pick []) (c_law_rings : Cal P w K mg base 2 "_law_rings" sp_law_rings []) (c_law_word : Cal P w K mg base 2 "_law_word" sp_law_word []) (c_law_line : Cal P w K mg base 1 "_law_line" sp_law_line []) (c_law_reader : Cal P w K mg base 2 "_law_reader" sp_law_reader []) (c_law_doubled : Cal P w K mg base 2 "_law_doubled" sp_law_doubled []) (c_law_changed : Cal P w K mg base 2 "_law_changed" sp_law_changed []) : Cal P w K mg base 3 "_law_both" (sp_law_both) [] := by
  refine cal0 F b .nil sc_law_both (fun vs H Q E h => ?_) (fun cdv A outer s H vs Q E hr h => ?_)
  · obtain ⟨_, _, _, _, rfl, _⟩ := h
    rfl
  · obtain ⟨S, a, a2, al, rfl, ha, hb, hS, hal, k⟩ := h
    refine ⟨_, (pss_cons (ps_set (i := 3) sc_law_both.nd rfl (by first | exact Or.inl rfl | exact Or.inr rfl) (pe_callB (lenK K rfl) (by rfl) T.b_len (by decide +kernel) (pa_cons (pv 2) pa_nil)))
        (pss_cons (ps_set (i := 4) sc_law_both.nd rfl (by first | exact Or.inl rfl | exact Or.inr rfl) (pe_c c_law_pick hr (by decide) rfl (pa_cons (pv 0) (pa_cons pe_int pa_nil))))
        (pss_cons (ps_if (pt_cmpR op_eq (pv 4) pe_int (nomark _)) (pss_one (ps_ret (pe_c c_law_rings hr (by decide) rfl (pa_cons (pv 1) (pa_cons (pv 3) pa_nil))))) pss_nil)
        (C8.pss_cut (ps_if (pt_cmpR (inK K rfl) (pv 4) (pe_tup (pa_cons pe_int (pa_cons pe_int pa_nil))) rfl) (pss_cons (ps_set (i := 5) sc_law_both.nd rfl (by first | exact Or.inl rfl | exact Or.inr rfl) (pe_op op_add_str (pe_ix (ixK K rfl) (pv 2) (pe_c c_law_pick hr (by decide) rfl (pa_cons (pv 1) (pa_cons (pv 3) pa_nil))) (fun _ _ => rfl)) (pe_c c_law_word hr (by decide) rfl (pa_cons (pv 1) (pa_cons (pv 2) (pa_cons pe_int pa_nil))))))
        (pss_cons (ps_setLc (i := 6) (own := [("k", 10)]) rfl sc_law_both.nd rfl rfl (sw_true rfl rfl rfl (by decide +kernel)) (pi_range1 (by rfl) T.b_range (pa_cons pe_int pa_nil)) (blkOk_by (by kernel_rfl)) (fun _ _ _ _ _ => (pg_name (i := 10) sc_law_both.nd rfl (by first | exact Or.inl rfl | exact Or.inr rfl))) (fun _ _ _ _ _ => pts_nil) (fun _ _ _ _ _ => (pe_ix (ixK K rfl) (pe_lst (pa_cons pe_int (pa_cons pe_int (pa_cons pe_int (pa_cons pe_int (pa_cons (pe_un un_neg pe_int) (pa_cons pe_int (pa_cons pe_int (pa_cons pe_int (pa_cons pe_int (pa_cons pe_int pa_nil))))))))))) (pe_c c_law_pick hr (by decide) rfl (pa_cons (pv 1) (pa_cons pe_int pa_nil))) (fun _ _ => rfl))))
        (pss_one (ps_ret (pe_lst (pa_cons (pe_c c_law_line hr (by decide) rfl (pa_cons (pv 2) (pa_cons (pv 5) (pa_cons (pe_ix (ixK K rfl) (pv 6) pe_int (fun _ _ => rfl)) pa_nil)))) (pa_cons (pe_c c_law_line hr (by decide) rfl (pa_cons (pv 2) (pa_cons (pv 5) (pa_cons (pe_ix (ixK K rfl) (pv 6) pe_int (fun _ _ => rfl)) pa_nil)))) pa_nil))))))) pss_nil)
        (pss_cons (ps_set (i := 7) sc_law_both.nd rfl (by first | exact Or.inl rfl | exact Or.inr rfl) (pe_c c_law_reader hr (by decide) rfl (pa_cons (pv 0) (pa_cons (pv 3) (pa_cons pe_int pa_nil)))))
        (pss_cons (ps_set (i := 8) sc_law_both.nd rfl (by first | exact Or.inl rfl | exact Or.inr rfl) (pe_c c_law_reader hr (by decide) rfl (pa_cons (pv 1) (pa_cons (pv 3) (pa_cons pe_int pa_nil)))))
        (C8.pss_cut (ps_if (pt_cmpR (inK K rfl) (pv 4) (pe_tup (pa_cons pe_int (pa_cons pe_int pa_nil))) rfl) (pss_one (ps_set (i := 8) sc_law_both.nd rfl (by first | exact Or.inl rfl | exact Or.inr rfl) (pe_c c_law_doubled hr (by decide) rfl (pa_cons (pv 1) (pa_cons (pv 7) pa_nil))))) pss_nil)
        (C8.pss_cut (ps_if (pt_cmpR (inK K rfl) (pv 4) (pe_tup (pa_cons pe_int (pa_cons pe_int pa_nil))) rfl) (pss_one (ps_set (i := 8) sc_law_both.nd rfl (by first | exact Or.inl rfl | exact Or.inr rfl) (pe_c c_law_changed hr (by decide) rfl (pa_cons (pv 1) (pa_cons (pe_c c_law_doubled hr (by decide) rfl (pa_cons (pv 1) (pa_cons (pv 7) pa_nil))) pa_nil))))) pss_nil)
        (C8.pss_cut (ps_if (pt_cmpR (inK K rfl) (pv 4) (pe_tup (pa_cons pe_int (pa_cons pe_int pa_nil))) rfl) (pss_one (ps_set (i := 8) sc_law_both.nd rfl (by first | exact Or.inl rfl | exact Or.inr rfl) (pe_c c_law_changed hr (by decide) rfl (pa_cons (pv 1) (pa_cons (pv 7) pa_nil))))) pss_nil)
        (C8.pss_cut (ps_if (pt_cmpR op_eq (pv 4) pe_int (nomark _)) (pss_cons (ps_set (i := 9) sc_law_both.nd rfl (by first | exact Or.inl rfl | exact Or.inr rfl) (pe_c c_law_pick hr (by decide) rfl (pa_cons (pv 1) (pa_cons (pe_callB (lenK K rfl) (by rfl) T.b_len (by decide +kernel) (pa_cons (pe_ix (ixK K rfl) (pv 7) pe_int (fun _ _ => rfl)) pa_nil)) pa_nil))))
        (pss_one (ps_set (i := 8) sc_law_both.nd rfl (by first | exact Or.inl rfl | exact Or.inr rfl) (pe_tup (pa_cons (pe_ix (ixK K rfl) (pv 7) pe_int (fun _ _ => rfl)) (pa_cons (pe_lc (own := [("p", 11)]) rfl sc_law_both.nd (pi_range1 (by rfl) T.b_range (pa_cons (pe_callB (lenK K rfl) (by rfl) T.b_len (by decide +kernel) (pa_cons (pe_ix (ixK K rfl) (pv 7) pe_int (fun _ _ => rfl)) pa_nil)) pa_nil)) (blkOk_by (by kernel_rfl)) (fun _ _ _ _ _ => (pg_name (i := 11) sc_law_both.nd rfl (by first | exact Or.inl rfl | exact Or.inr rfl))) (fun _ _ _ _ _ => (pts_one (PW.pt (pw_or (pt_cmpR (inK K rfl) (pv 11) (pe_ix (ixK K rfl) (pv 7) pe_int (fun _ _ => rfl)) rfl) (pw_or1 (pt_cmpR op_eq (pv 11) (pv 9) (nomark _))))))) (fun _ _ _ _ _ => (pv 11))) pa_nil)))))) pss_nil)
        (C8.pss_cut (ps_if (pt_cmpR op_eq (pv 4) pe_int (nomark _)) (pss_one (ps_set (i := 8) sc_law_both.nd rfl (by first | exact Or.inl rfl | exact Or.inr rfl) (pe_tup (pa_cons (pe_lst (pa_cons (pe_lc (own := [("t", 12)]) rfl sc_law_both.nd (pi_range1 (by rfl) T.b_range (pa_cons (pv 3) pa_nil)) (blkOk_by (by kernel_rfl)) (fun _ _ _ _ _ => (pg_name (i := 12) sc_law_both.nd rfl (by first | exact Or.inl rfl | exact Or.inr rfl))) (fun _ _ _ _ _ => pts_nil) (fun _ _ _ _ _ => pe_int)) pa_nil)) (pa_cons (pe_ix (ixK K rfl) (pe_lst (pa_cons (pe_lst pa_nil) (pa_cons (pe_lst (pa_cons pe_int pa_nil)) pa_nil))) (pe_c c_law_pick hr (by decide) rfl (pa_cons (pv 1) (pa_cons pe_int pa_nil))) (fun _ _ => rfl)) pa_nil))))) pss_nil)
        (pss_cons (ps_if (pt_cmpR op_eq (pe_c c_law_pick hr (by decide) rfl (pa_cons (pv 1) (pa_cons pe_int pa_nil))) pe_int (nomark _)) (pss_one (ps_ret (pe_lst (pa_cons (pv 8) (pa_cons (pv 7) pa_nil))))) pss_nil)
        (pss_one (ps_ret (pe_lst (pa_cons (pv 7) (pa_cons (pv 8) pa_nil))))))))))))))))), ?_⟩
    walk_at "go"
    have h1 := hal.pos
    have h3 := hal.le
    have hl : (SX.S al).length = al.length := SX.S_len al
    refine i_lenS (szl (by omega)) ?_
    rw [hl]
    walk_at "go"
    refine ⟨S, a, _, rfl, ha, hS, by decide, by decide, fun way H1 g0 g1 e1 => ?_⟩
    obtain ⟨way, rfl⟩ := Int.eq_ofNat_of_zero_le g0
    have hS1 := e1.src
    walk_at "go"
    refine iteD (fun hw4 => ?_) (fun hw4 => ?_)
    · walk_at "go"
      refine ⟨S, a2, al.length, rfl, hb, hS1, h1, h3, fun p u v A gA B gB H3 e3 nS hp hA wA kA hB wB kB => ?_⟩
      walk_at "go"
      exact k p u v A gA B gB H3 (e1.trans e3) nS hp ⟨hA, wA, kA⟩ ⟨hB, wB, kB⟩
    walk_at "go"
    show C8.tCut _ _ _ _ _
    refine i_cut (fun σ H2 => σ = [some (.ref a), some (.ref a2), some (.str (SX.S al)), some (vn al.length), some (vn way), none, none, none, none, none, none, none, none] ∧ Ev S H H2) ?_ (fun σ H2 hq => ?_)
    · walk_at "go"
      refine ⟨sz2, fun p hp => ?_⟩
      have e2 := Ev.laid (o := .tup [.int 6, .int 9]) hS1 hp
      have hin : (upd H1 p (.tup [.int 6, .int 9])) p = some (sq true (([6, 9] : List Nat).map vn)) := upd_same
      refine i_inI hin ?_
      walk_at "go"
      refine iteD (fun hw => ?_) (fun hw => ?_)
      · walk_at "go"
        refine ⟨S, a2, _, rfl, hb, e2.src, by omega, by omega, fun d H3 g2 g3 e3 => ?_⟩
        obtain ⟨d, rfl⟩ := Int.eq_ofNat_of_zero_le g2
        have hd : d < al.length := by omega
        have hc : al[d]? = some (al.getD d 0) := by
          rw [List.getD_eq_getElem?_getD, List.getElem?_eq_getElem hd]
          rfl
        refine i_ixS (szl (by omega)) (S_at hc) ?_
        walk_at "go"
        refine ⟨S, a2, al, 3, rfl, hb, e3.src, hal, by decide, fun z w H4 hz hw e4 => ?_⟩
        walk_at "go"
        have hl1 : (⟨#[al.getD d 0]⟩ : Str).length = 1 := rfl
        have hl2 := SX.S_len z
        refine ⟨_, _, rfl, rfl, by rw [hl1, hl2, sizeLine_eq]; omega, ?_⟩
        rw [S_cons]
        walk_at "go"
        refine ⟨by decide, by decide, fun M hM => ?_⟩
        have e04 := e1.trans (e2.trans (e3.trans e4))
        have hS4 := e04.src
        refine rng0_lc (n := 2) (fun i H' => Ev S H4 H' ∧ ∃ cs : List Int, H' M = some (.lst (cs.map V.int)) ∧ cs.length = i ∧ ∀ c ∈ cs, -1 ≤ c ∧ c ≤ 40) ⟨.laid hS4 hM, [], upd_same, rfl, by simp⟩ (fun i H' hi hz => ?_) (fun H' hz => ?_)
        · obtain ⟨e5, cs, hM5, hcl, hcs⟩ := hz
          walk_at "go"
          refine ⟨szl (by show 10 ≤ 16777216; decide), fun L hL => ?_⟩
          have e6 := Ev.laid (o := .lst [.int 0, .int 1, .int 2, .int 5, .int (-1), .int 11, .int 37, .int 38, .int 3, .int 0]) e5.src hL
          walk_at "go"
          refine ⟨S, a2, _, rfl, hb, e6.src, by decide, by decide, fun x H7 g4 g5 e7 => ?_⟩
          have hL7 := e7.at (e5.src.notin hL) upd_same
          have hv : ∃ c : Int, atI ([.int 0, .int 1, .int 2, .int 5, .int (-1), .int 11, .int 37, .int 38, .int 3, .int 0] : List V) x = some (.int c) ∧ -1 ≤ c ∧ c ≤ 40 := by
            have : x = 0 ∨ x = 1 ∨ x = 2 ∨ x = 3 ∨ x = 4 ∨ x = 5 ∨ x = 6 ∨ x = 7 ∨ x = 8 ∨ x = 9 := by omega
            rcases this with rfl | rfl | rfl | rfl | rfl | rfl | rfl | rfl | rfl | rfl
            · exact ⟨0, rfl, by decide, by decide⟩
            · exact ⟨1, rfl, by decide, by decide⟩
            · exact ⟨2, rfl, by decide, by decide⟩
            · exact ⟨5, rfl, by decide, by decide⟩
            · exact ⟨-1, rfl, by decide, by decide⟩
            · exact ⟨11, rfl, by decide, by decide⟩
            · exact ⟨37, rfl, by decide, by decide⟩
            · exact ⟨38, rfl, by decide, by decide⟩
            · exact ⟨3, rfl, by decide, by decide⟩
            · exact ⟨0, rfl, by decide, by decide⟩
          obtain ⟨c, hc1, hc2, hc3⟩ := hv
          refine i_ixL hL7 hc1 ?_
          refine ⟨_, (e6.trans e7).at (hS4.notin hM) hM5, szlt (by rw [List.length_map]; omega), Ev.put hS4 (e5.trans (e6.trans e7)) hM, cs ++ [c], by rw [upd_same, List.map_append]; rfl, by simp [hcl], fun y hy => ?_⟩
          rcases List.mem_append.mp hy with hy | hy
          · exact hcs y hy
          · rw [List.mem_singleton.mp hy]
            exact ⟨hc2, hc3⟩
        · obtain ⟨e5, cs, hM5, hcl, hcs⟩ := hz
          match cs, hcl with
          | [c0, c1], _ =>
          obtain ⟨h01, h02⟩ := hcs c0 (by simp)
          obtain ⟨h11, h12⟩ := hcs c1 (by simp)
          have e05 := e04.trans e5
          have hMS : ¬ S M := hS4.notin hM
          walk_at "go"
          refine ⟨al, d :: w, al.getD d 0 :: z, c0, rfl, hal, word_cons hw hd, by simp, by simp; omega, h01, h02, fun Z u A gA H6 hZ s6 hmA wA kA _ => ?_⟩
          walk_at "go"
          refine i_ixL (s6 _ _ hM5) (i := 1) (v := .int c1) rfl ?_
          walk_at "go"
          refine ⟨al, d :: w, al.getD d 0 :: z, c1, rfl, hal, word_cons hw hd, by simp, by simp; omega, h11, h12, fun Z' v B gB H7 hZ' s7 hmB wB kB _ => ?_⟩
          walk_at "go"
          have e6 := Ev.of_same e05.src s6
          have e7 := Ev.of_same e6.src s7
          refine ⟨sz2, fun q hq => ?_⟩
          have e8 := Ev.laid (o := .lst [.ref u, .ref v]) e7.src hq
          have hA := (show Mach S H6 u A gA by rw [hZ] at hmA; exact hmA.srcs e05.src)
          have hB := (show Mach S H7 v B gB by rw [hZ'] at hmB; exact hmB.srcs e6.src)
          exact k q u v A gA B gB _ (e05.trans (e6.trans (e7.trans e8))) (e7.src.notin hq) upd_same ⟨(hA.ev e7).ev e8, wA, kA⟩ ⟨hB.ev e8, wB, kB⟩
      · walk_at "go"
        exact ⟨rfl, e1.trans e2⟩
    obtain ⟨rfl, e2⟩ := hq
    walk_at "go"
    refine ⟨S, a, al.length, 8, rfl, ha, e2.src, h1, h3, by decide, by decide, fun u A gA H3 e3 hA wA kA hA8 => ?_⟩
    walk_at "go"
    refine ⟨S, a2, al.length, 7, rfl, hb, e3.src, h1, h3, by decide, by decide, fun v B gB H4 e4 hB wB kB _ => ?_⟩
    walk_at "go"
    have hA4 : MG S al.length H4 u A gA := ⟨hA.ev e4, wA, kA⟩
    have hB4 : MG S al.length H4 v B gB := ⟨hB, wB, kB⟩
    have e := (e2.trans e3).trans e4
    clear hA hB wA wB kA kB e3 e4 e2
    show C8.tCut _ _ _ _ _
    refine i_cut (BothAt S H a a2 al way) ?_ (fun σ H' hq => ?_)
    · have hA := hA4
      have hB := hB4
      show tIfS _ _ _ _ [some (.ref a), some (.ref a2), some (.str (SX.S al)), some (vn al.length), some (vn way), none, none, some (.ref u), some (.ref v), none, none, none, none] H4
      walk_at "go"
      refine ⟨by decide, fun p hp => ?_⟩
      have e2 := Ev.laid (o := .tup [.int 2, .int 5]) e.src hp
      have hin : (upd H4 p (.tup [.int 2, .int 5])) p = some (sq true (([2, 5] : List Nat).map vn)) := upd_same
      refine i_inI hin ?_
      walk_at "go"
      refine iteD (fun hw => ?_) (fun hw => ?_)
      · walk_at "go"
        refine ⟨S, a2, u, A, gA, al.length, rfl, hb, e2.src, hA.1.ev e2, h1, hA.2.1, hA.2.2, by omega, fun q A' gA' H3 e3 hA2 wA kA => ?_⟩
        walk_at "go"
        exact ⟨u, q, A, gA, A', gA', _, rfl, (e.trans e2).trans e3, (hA.ev e2).ev e3, ⟨hA2, wA, kA⟩, hA8⟩
      · walk_at "go"
        exact ⟨u, v, A, gA, B, gB, _, rfl, e.trans e2, hA.ev e2, hB.ev e2, hA8⟩
    clear hA4 hB4 e hA8
    obtain ⟨u1, v1, A1, gA1, B1, gB1, x9, rfl, e, hA, hB, hA8⟩ := hq
    show C8.tCut _ _ _ _ _
    refine i_cut (BothAt S H a a2 al way) ?_ (fun σ H2 hq => ?_)
    · walk_at "go"
      refine ⟨by decide, fun p hp => ?_⟩
      have e2 := Ev.laid (o := .tup [.int 3, .int 11]) e.src hp
      have hin : (upd H' p (.tup [.int 3, .int 11])) p = some (sq true (([3, 11] : List Nat).map vn)) := upd_same
      refine i_inI hin ?_
      walk_at "go"
      refine iteD (fun hw => ?_) (fun hw => ?_)
      · walk_at "go"
        refine ⟨S, a2, u1, A1, gA1, al.length, rfl, hb, e2.src, hA.1.ev e2, h1, hA.2.1, hA.2.2, by omega, fun q A' gA' H3 e3 hA2 wA kA => ?_⟩
        walk_at "go"
        refine ⟨S, a2, q, A', gA', al.length, rfl, hb, e3.src, hA2, h1, wA, kA, fun q2 A2 gA2 H4 e4 hA3 wA2 kA2 _ => ?_⟩
        walk_at "go"
        exact ⟨u1, q2, A1, gA1, A2, gA2, _, rfl, ((e.trans e2).trans e3).trans e4, ((hA.ev e2).ev e3).ev e4, ⟨hA3, wA2, kA2⟩, hA8⟩
      · walk_at "go"
        exact ⟨u1, v1, A1, gA1, B1, gB1, _, rfl, e.trans e2, hA.ev e2, hB.ev e2, hA8⟩
    clear hA hB e hA8
    obtain ⟨u1, v1, A1, gA1, B1, gB1, x9, rfl, e, hA, hB, hA8⟩ := hq
    show C8.tCut _ _ _ _ _
    refine i_cut (BothAt S H a a2 al way) ?_ (fun σ H3 hq => ?_)
    · walk_at "go"
      refine ⟨by decide, fun p hp => ?_⟩
      have e2 := Ev.laid (o := .tup [.int 1, .int 8]) e.src hp
      have hin : (upd H2 p (.tup [.int 1, .int 8])) p = some (sq true (([1, 8] : List Nat).map vn)) := upd_same
      refine i_inI hin ?_
      walk_at "go"
      refine iteD (fun hw => ?_) (fun hw => ?_)
      · walk_at "go"
        refine ⟨S, a2, u1, A1, gA1, al.length, rfl, hb, e2.src, hA.1.ev e2, h1, hA.2.1, hA.2.2, fun q A gA H3 e3 hA2 wA kA _ => ?_⟩
        walk_at "go"
        exact ⟨u1, q, A1, gA1, A, gA, _, rfl, (e.trans e2).trans e3, (hA.ev e2).ev e3, ⟨hA2, wA, kA⟩, hA8⟩
      · walk_at "go"
        exact ⟨u1, v1, A1, gA1, B1, gB1, _, rfl, e.trans e2, hA.ev e2, hB.ev e2, hA8⟩
    clear hA hB e hA8
    obtain ⟨u, v, A, gA, B, gB, x9, rfl, e, hA, hB, hA8⟩ := hq
    show C8.tCut _ _ _ _ _
    refine i_cut (BothAt S H a a2 al way) ?_ (fun σ H4 hq => ?_)
    · walk_at "go"
      refine iteD (fun hw => ?_) (fun hw => ?_)
      · obtain ⟨⟨hmS, pm, pg, hm1, hm2, hm3⟩, wA, kA⟩ := id hA
        obtain ⟨hrS, tm, as, hr1, hr2⟩ := id hm2
        obtain ⟨hgS, tg, hg1⟩ := id hm3
        have hpos := wA.pos
        walk_at "go"
        refine i_lenQ hr1 ?_
        rw [List.length_map, hr2.length]
        walk_at "go"
        refine ⟨S, a2, _, rfl, hb, e.src, by omega, by omega, fun d H5 g2 g3 e5 => ?_⟩
        obtain ⟨d, rfl⟩ := Int.eq_ofNat_of_zero_le g2
        have hm15 := e5.at hmS hm1
        have hr15 := e5.at hrS hr1
        have hg15 := e5.at hgS hg1
        walk_at "go"
        refine i_lenQ hr15 ?_
        rw [List.length_map, hr2.length]
        walk_at "go"
        refine ⟨by omega, by omega, fun G hG => ?_⟩
        rw [Int.toNat_natCast]
        refine rng0_lc (FilInv S _ G) (FilInv.start e5.src hG) (fun i H8 hi hf => ?_) (fun H8 hf => ?_)
        · have hm18 := hf.1.at hmS hm15
          walk_at "go"
          refine i_inI (hf.1.at hgS hg15) ?_
          walk_at "go"
          refine iteB (fun hx => ?_) (fun hx => ?_)
          · walk_at "go"
            exact hf.add e5.src hG (Ev.refl hf.src) (by omega)
          · walk_at "go"
            refine iteD (fun hy => ?_) (fun hy => ?_)
            · walk_at "go"
              exact hf.add e5.src hG (Ev.refl hf.src) (by omega)
            · exact hf.skip e5.src hG (Ev.refl hf.src)
        obtain ⟨gd, hgd, hgo⟩ := hf.done e5.src hG
        walk_at "go"
        refine ⟨sz2, fun q hq => ?_⟩
        walk_at "go"
        have e8 := hf.1
        have e58 := e5.trans e8
        have e9 := Ev.laid (o := .tup [.ref pm, .ref G]) e8.src hq
        exact ⟨u, q, A, gA, A, gd, _, rfl, (e.trans e58).trans e9, (hA.ev e58).ev e9, ⟨⟨e8.src.notin hq, pm, G, upd_same, (hm2.ev e58).ev e9, hgd.ev e9⟩, wA, hgo⟩, hA8⟩
      · walk_at "go"
        exact ⟨u, v, A, gA, B, gB, _, rfl, e, hA, hB, hA8⟩
    clear hA hB e hA8
    obtain ⟨u1, v1, A1, gA1, B1, gB1, x9, rfl, e, hA, hB, hA8⟩ := hq
    show C8.tCut _ _ _ _ _
    refine i_cut (BothAt S H a a2 al way) ?_ (fun σ H2 hq => ?_)
    · walk_at "go"
      refine iteD (fun hw => ?_) (fun hw => ?_)
      · walk_at "go"
        refine ⟨by omega, by omega, fun E hE => ?_⟩
        rw [Int.toNat_natCast]
        refine rng0_lc (CelInv S H4 E 1) (CelInv.start e.src hE) (fun j H5 hj hc => ?_) (fun H5 hc => ?_)
        · walk_at "go"
          exact hc.add e.src hE (Ev.refl hc.src) (u := 0) (by decide) (by omega)
        obtain ⟨e4, ns, hns, hns2, hE4⟩ := hc
        walk_at "go"
        refine ⟨sz1, fun D hD => ?_⟩
        have e5 := Ev.laid (o := .lst [.ref E]) e4.src hD
        walk_at "go"
        refine ⟨by decide, fun G1 hG1 => ?_⟩
        have e6 := Ev.laid (o := .lst []) e5.src hG1
        walk_at "go"
        refine ⟨sz1, fun G2 hG2 => ?_⟩
        have e7 := Ev.laid (o := .lst [.int 0]) e6.src hG2
        walk_at "go"
        refine ⟨sz2, fun L hL => ?_⟩
        have e8 := Ev.laid (o := .lst [.ref G1, .ref G2]) e7.src hL
        walk_at "go"
        refine ⟨S, a2, _, rfl, hb, e8.src, by decide, by decide, fun x H5 g2 g3 e9 => ?_⟩
        have nE : ¬ S E := e.src.notin hE
        have nD : ¬ S D := e4.src.notin hD
        have nG1 : ¬ S G1 := e5.src.notin hG1
        have nG2 : ¬ S G2 := e6.src.notin hG2
        have e59 := (e6.trans e7).trans (e8.trans e9)
        have hD5 := e59.at nD upd_same
        have hE5 := (e5.trans e59).at nE hE4
        have hG15 := (e7.trans (e8.trans e9)).at nG1 upd_same
        have hG25 := (e8.trans e9).at nG2 upd_same
        have hL5 := e9.at (e7.src.notin hL) upd_same
        have e05 := e.trans (e4.trans (e5.trans e59))
        have hwf : WF al.length [ns] := .of (by simp) (by simp) h3 (fun r hr => by rw [List.mem_singleton.mp hr]; exact hns) (fun r hr t ht => by rw [List.mem_singleton.mp hr] at ht; exact hns2 t ht)
        have rws : Rows S H5 D [ns] := ⟨nD, false, [E], hD5, .cons ⟨nE, false, hE5⟩ .nil⟩
        have hx : x = 0 ∨ x = 1 := by omega
        rcases hx with rfl | rfl
        · refine i_ixL hL5 (v := .ref G1) rfl ?_
          walk_at "go"
          refine ⟨sz2, fun q hq => ?_⟩
          walk_at "go"
          have e10 := Ev.laid (o := .tup [.ref D, .ref G1]) e05.src hq
          exact ⟨u1, q, A1, gA1, [ns], [], _, rfl, e05.trans e10, (hA.ev (e4.trans (e5.trans e59))).ev e10, ⟨⟨e05.src.notin hq, D, G1, upd_same, rws.ev e10, nG1, false, e10.at nG1 hG15⟩, hwf, ⟨.nil, by simp⟩⟩, hA8⟩
        · refine i_ixL hL5 (v := .ref G2) rfl ?_
          walk_at "go"
          refine ⟨sz2, fun q hq => ?_⟩
          walk_at "go"
          have e10 := Ev.laid (o := .tup [.ref D, .ref G2]) e05.src hq
          exact ⟨u1, q, A1, gA1, [ns], [0], _, rfl, e05.trans e10, (hA.ev (e4.trans (e5.trans e59))).ev e10, ⟨⟨e05.src.notin hq, D, G2, upd_same, rws.ev e10, nG2, false, e10.at nG2 hG25⟩, hwf, ⟨by simp, by simp⟩⟩, hA8⟩
      · walk_at "go"
        exact ⟨u1, v1, A1, gA1, B1, gB1, _, rfl, e, hA, hB, hA8⟩
    clear hA hB e hA8
    obtain ⟨u, v, A, gA, B, gB, x9, rfl, e, hA, hB, _⟩ := hq
    walk_at "go"
    refine ⟨S, a2, _, rfl, hb, e.src, by decide, by decide, fun x H5 g2 g3 e5 => ?_⟩
    have e05 := e.trans e5
    walk_at "go"
    refine iteD (fun hx => ?_) (fun hx => ?_)
    · walk_at "go"
      refine ⟨sz2, fun q hq => ?_⟩
      have e2 := Ev.laid (o := .lst [.ref v, .ref u]) e05.src hq
      exact k q v u B gB A gA _ (e05.trans e2) (e05.src.notin hq) upd_same ((hB.ev e5).ev e2) ((hA.ev e5).ev e2)
    · walk_at "go"
      refine ⟨sz2, fun q hq => ?_⟩
      have e2 := Ev.laid (o := .lst [.ref u, .ref v]) e05.src hq
      exact k q u v A gA B gB _ (e05.trans e2) (e05.src.notin hq) upd_same ((hA.ev e5).ev e2) ((hB.ev e5).ev e2)
end
abbrev s_law_finite : Stmt := top 75
theorem sc_law_finite : FnScope ["source", "many", "size", "moves", "good", "way", "at", "row", "p", "t"] ["source", "many"] (fnScope s_law_finite) := ⟨rfl, rfl, rfl, by decide +kernel, rfl, by decide +kernel, by decide +kernel⟩
/-- a machine whose rows and good rooms lie in fresh lists -/
def FinAt (S : AS) (H : Hp) (D G : Addr) (m N : Nat) (H' : Hp) : Prop := Ev S H H' ∧ H D = none ∧ H G = none ∧ D ≠ G ∧ (∃ bs rws, H' D = some (.lst (bs.map V.ref)) ∧ Paired (fun a r => (¬ (S a ∨ a = D ∨ a = G ∨ H a ≠ none)) ∧ H' a = some (.lst ((r : List Nat).map vn))) bs rws ∧ rws.length = N ∧ ∀ r ∈ rws, r.length = m ∧ ∀ t ∈ r, t < N) ∧ ∃ gd, H' G = some (.lst (gd.map vn)) ∧ GOK N gd
theorem rows_set {T : AS} {H : Hp} {b : Addr} {r0 : List Nat} {m N y x : Nat} (hb : H b = some (.lst (r0.map vn))) (h0 : r0.length = m ∧ ∀ t ∈ r0, t < N) (hx : x < N) : ∀ {bs : List Addr} {rws : Rws}, Paired (fun a r => (¬ T a) ∧ H a = some (.lst ((r : List Nat).map vn))) bs rws → (∀ r ∈ rws, r.length = m ∧ ∀ t ∈ r, t < N) →
    ∃ rws', Paired (fun a r => (¬ T a) ∧ (upd H b (.lst ((r0.set y x).map vn))) a = some (.lst ((r : List Nat).map vn))) bs rws' ∧ rws'.length = rws.length ∧ ∀ r ∈ rws', r.length = m ∧ ∀ t ∈ r, t < N
  | _, _, .nil, _ => ⟨[], .nil, rfl, fun r h => by cases h⟩
  | _, _, .cons (a := c) (b := r) h t, hr => by
    obtain ⟨rws', hp, hl, hw⟩ := rows_set hb h0 hx t fun r hr' => hr r (List.mem_cons_of_mem _ hr')
    by_cases e : c = b
    · subst e
      refine ⟨r0.set y x :: rws', .cons ⟨h.1, upd_same⟩ hp, by rw [List.length_cons, List.length_cons, hl], fun r' hr' => ?_⟩
      rcases List.mem_cons.mp hr' with rfl | hr'
      · refine ⟨by rw [List.length_set]; exact h0.1, fun t ht => ?_⟩
        rcases List.mem_or_eq_of_mem_set ht with ht | ht
        · exact h0.2 t ht
        · rw [ht]; exact hx
      · exact hw r' hr'
    · refine ⟨r :: rws', .cons ⟨h.1, by rw [upd_ne e]; exact h.2⟩ hp, by rw [List.length_cons, List.length_cons, hl], fun r' hr' => ?_⟩
      rcases List.mem_cons.mp hr' with rfl | hr'
      · exact hr _ (List.mem_cons_self ..)
      · exact hw r' hr'
/-- rows that are lists and grow at D -/
def RowL (S : AS) (H : Hp) (D : Addr) (m n i : Nat) (H' : Hp) : Prop := Ev S H H' ∧ ∃ (bs : List Addr) (rws : Rws), H' D = some (.lst (bs.map V.ref)) ∧ Paired (fun a r => (¬ (S a ∨ a = D ∨ H a ≠ none)) ∧ H' a = some (.lst ((r : List Nat).map vn))) bs rws ∧ rws.length = i ∧ ∀ r ∈ rws, r.length = m ∧ ∀ t ∈ r, t < n
theorem RowL.start {S : AS} {H : Hp} {D : Addr} {m n : Nat} (hS : Srcs S H) (hD : H D = none) : RowL S H D m n 0 (upd H D (.lst [])) := ⟨.laid hS hD, [], [], upd_same, .nil, rfl, by simp⟩
theorem RowL.src {S : AS} {H H' : Hp} {D : Addr} {m n i : Nat} (c : RowL S H D m n i H') : Srcs S H' := c.1.src
theorem RowL.step {S : AS} {H H' H3 : Hp} {D E : Addr} {m n i : Nat} (c : RowL S H D m n i H') (hS : Srcs S H) (hD : H D = none) (hE : H' E = none) (hc : CelInv S H' E n m H3) (hi : i < 1000000) : ∃ acc, H3 D = some (.lst acc) ∧ acc.length < sizeLine ∧ RowL S H D m n (i + 1) (upd H3 D (.lst (acc ++ [.ref E]))) := by
  obtain ⟨e2', bs, rws, hD2, hbs, hlen, hrw⟩ := c
  obtain ⟨e3, ns, hns, hns2, hE3⟩ := hc
  have hED : E ≠ D := fun z => by rw [z, hD2] at hE; cases hE
  refine ⟨_, e3.at (hS.notin hD) hD2, szlt (by rw [List.length_map, hbs.length]; omega), Ev.put hS (e2'.trans e3) hD, bs ++ [E], rws ++ [ns], by rw [upd_same, List.map_append]; rfl, ?_, by simp [hlen], fun r hr => ?_⟩
  · exact U.Paired.snoc (Paired.mapP hbs fun b r z => ⟨z.1, by rw [upd_ne (fun y => z.1 (.inr (.inl y)))]; exact e3.at (fun y => z.1 (.inl y)) z.2⟩) ⟨fun z => z.elim (e2'.src.notin hE) fun z => z.elim hED fun z => z (Ev.free e2' hE), by rw [upd_ne hED]; exact hE3⟩
  · rcases List.mem_append.mp hr with hr | hr
    · exact hrw r hr
    · rw [List.mem_singleton.mp hr]; exact ⟨hns, hns2⟩
def sp_law_finite : Sp := fun vs H Q _ => ∃ (S : AS) (a : Addr) (m : Nat), vs = [.ref a, .int (m : Int)] ∧ S a ∧ Srcs S H ∧ 0 < m ∧ m ≤ 3 ∧ ∀ p A gA H', Ev S H H' → MG S m H' p A gA → Q (.ref p) H'
section
variable {P : Program} {w : World} {K : PySem.W.Frag} {mg : Str → Option Value} {base : Heap} {C : Addr} {r : Er}
set_option maxHeartbeats 4000000 in
theorem ok_law_finite {f : Addr} {fd : FuncData} (F : Def K mg "_law_finite" s_law_finite f fd) (T : Txt K mg C r) (b : Binds K fd ["source", "many"] []) (c_law_pick : Cal P w K mg base 1 "_law_pick" sp_law_pick []) : Cal P w K mg base 2 "_law_finite" (sp_law_finite) [] := by
  refine cal0 F b .nil sc_law_finite (fun vs H Q E h => ?_) (fun cdv A outer s H vs Q E hr h => ?_)
  · obtain ⟨_, _, _, rfl, _⟩ := h
    rfl
  · obtain ⟨S, a, m, rfl, ha, hS, hm0, hm, k⟩ := h
    refine ⟨_, (pss_cons (ps_set (i := 2) sc_law_finite.nd rfl (by first | exact Or.inl rfl | exact Or.inr rfl) (pe_op op_add pe_int (pe_c c_law_pick hr (by decide) rfl (pa_cons (pv 0) (pa_cons pe_int pa_nil)))))
        (C8.pss_cut (ps_if (pt_cmpR op_eq (pe_c c_law_pick hr (by decide) rfl (pa_cons (pv 0) (pa_cons pe_int pa_nil))) pe_int (nomark _)) (pss_one (ps_set (i := 2) sc_law_finite.nd rfl (by first | exact Or.inl rfl | exact Or.inr rfl) (pe_op op_add pe_int (pe_c c_law_pick hr (by decide) rfl (pa_cons (pv 0) (pa_cons pe_int pa_nil)))))) pss_nil)
        (pss_cons (ps_setLc (i := 3) (own := [("p", 8)]) rfl sc_law_finite.nd rfl rfl (sw_true rfl rfl rfl (by decide +kernel)) (pi_range1 (by rfl) T.b_range (pa_cons (pe_op op_sub (pv 2) pe_int) pa_nil)) (blkOk_by (by kernel_rfl)) (fun _ _ _ _ _ => (pg_name (i := 8) sc_law_finite.nd rfl (by first | exact Or.inl rfl | exact Or.inr rfl))) (fun _ _ _ _ _ => pts_nil) (fun _ _ _ _ _ => (pe_lc (own := [("t", 9)]) rfl sc_law_finite.nd (pi_range1 (by rfl) T.b_range (pa_cons (pv 1) pa_nil)) (blkOk_by (by kernel_rfl)) (fun _ _ _ _ _ => (pg_name (i := 9) sc_law_finite.nd rfl (by first | exact Or.inl rfl | exact Or.inr rfl))) (fun _ _ _ _ _ => pts_nil) (fun _ _ _ _ _ => (pe_callB (call_min2 rfl) (by rfl) T.b_min (by decide +kernel) (pa_cons (pe_op op_sub (pv 2) pe_int) (pa_cons (pe_op op_add (pe_op op_add (pv 8) pe_int) (pe_c c_law_pick hr (by decide) rfl (pa_cons (pv 0) (pa_cons pe_int pa_nil)))) pa_nil)))))))
        (pss_cons (ps_expr (bmK K rfl (pe_bm PySem.F.plainAttrs_list PySem.F.slot_list_append PySem.F.type_list_append mt_append (pv 3) (pa_cons (pe_lc (own := [("t", 9)]) rfl sc_law_finite.nd (pi_range1 (by rfl) T.b_range (pa_cons (pv 1) pa_nil)) (blkOk_by (by kernel_rfl)) (fun _ _ _ _ _ => (pg_name (i := 9) sc_law_finite.nd rfl (by first | exact Or.inl rfl | exact Or.inr rfl))) (fun _ _ _ _ _ => pts_nil) (fun _ _ _ _ _ => (pe_op op_sub (pv 2) pe_int))) pa_nil))))
        (pss_cons (ps_setLc (i := 4) (own := [("p", 8)]) rfl sc_law_finite.nd rfl rfl (sw_true rfl rfl rfl (by decide +kernel)) (pi_range1 (by rfl) T.b_range (pa_cons (pe_op op_sub (pv 2) pe_int) pa_nil)) (blkOk_by (by kernel_rfl)) (fun _ _ _ _ _ => (pg_name (i := 8) sc_law_finite.nd rfl (by first | exact Or.inl rfl | exact Or.inr rfl))) (fun _ _ _ _ _ => (pts_one (pt_cmpR op_eq (pe_c c_law_pick hr (by decide) rfl (pa_cons (pv 0) (pa_cons pe_int pa_nil))) pe_int (nomark _)))) (fun _ _ _ _ _ => (pv 8)))
        (pss_cons (ps_set (i := 5) sc_law_finite.nd rfl (by first | exact Or.inl rfl | exact Or.inr rfl) (pe_c c_law_pick hr (by decide) rfl (pa_cons (pv 0) (pa_cons pe_int pa_nil))))
        (C8.pss_cut (ps_if (pt_cmpR op_eq (pv 5) pe_int (nomark _)) (pss_cons (ps_expr (bmK K rfl (pe_bm PySem.F.plainAttrs_list PySem.F.slot_list_append PySem.F.type_list_append mt_append (pv 3) (pa_cons (pe_lc (own := [("t", 9)]) rfl sc_law_finite.nd (pi_range1 (by rfl) T.b_range (pa_cons (pv 1) pa_nil)) (blkOk_by (by kernel_rfl)) (fun _ _ _ _ _ => (pg_name (i := 9) sc_law_finite.nd rfl (by first | exact Or.inl rfl | exact Or.inr rfl))) (fun _ _ _ _ _ => pts_nil) (fun _ _ _ _ _ => (pv 2))) pa_nil))))
        (pss_one (ps_expr (bmK K rfl (pe_bm PySem.F.plainAttrs_list PySem.F.slot_list_append PySem.F.type_list_append mt_append (pv 4) (pa_cons (pv 2) pa_nil)))))) pss_nil)
        (C8.pss_cut (ps_if (pt_cmpR op_eq (pv 5) pe_int (nomark _)) (pss_cons (ps_set (i := 6) sc_law_finite.nd rfl (by first | exact Or.inl rfl | exact Or.inr rfl) (pe_c c_law_pick hr (by decide) rfl (pa_cons (pv 0) (pa_cons (pe_op op_sub (pv 2) pe_int) pa_nil))))
        (pss_cons (ps_set (i := 7) sc_law_finite.nd rfl (by first | exact Or.inl rfl | exact Or.inr rfl) (pe_ix (ixK K rfl) (pv 3) (pv 6) (fun _ _ => rfl)))
        (pss_one (ps_asg (pe_c c_law_pick hr (by decide) rfl (pa_cons (pv 0) (pa_cons (pe_op op_add (pv 6) pe_int) pa_nil))) (pg_sub (pv 7) (pe_c c_law_pick hr (by decide) rfl (pa_cons (pv 0) (pa_cons (pv 1) pa_nil))) set_list))))) pss_nil)
        (pss_one (ps_ret (pe_tup (pa_cons (pv 3) (pa_cons (pv 4) pa_nil))))))))))))), ?_⟩
    walk_at "go"
    refine ⟨S, a, _, rfl, ha, hS, by decide, by decide, fun d H1 g0 g1 e1 => ?_⟩
    obtain ⟨d, rfl⟩ := Int.eq_ofNat_of_zero_le g0
    walk_at "go"
    rw [show ((2 : Int) + (d : Int)) = ((2 + d : Nat) : Int) by omega]
    generalize hdd : 2 + d = n0
    have hn00 : 2 ≤ n0 := by omega
    have hn01 : n0 ≤ 59 := by omega
    show C8.tCut _ _ _ _ _
    refine i_cut (fun σ H' => ∃ n : Nat, 2 ≤ n ∧ n ≤ 59 ∧ σ = [some (.ref a), some (.int (m : Int)), some (vn n), none, none, none, none, none, none, none] ∧ Ev S H H') ?_ (fun σ H2 hz => ?_)
    · walk_at "go"
      refine ⟨S, a, _, rfl, ha, e1.src, by decide, by decide, fun x H2 g2 g3 e2 => ?_⟩
      walk_at "go"
      refine iteD (fun hx => ?_) (fun hx => ?_)
      · walk_at "go"
        refine ⟨S, a, _, rfl, ha, e2.src, by decide, by decide, fun y H3 g4 g5 e3 => ?_⟩
        obtain ⟨y, rfl⟩ := Int.eq_ofNat_of_zero_le g4
        walk_at "go"
        exact ⟨40 + y, by omega, by omega, rfl, (e1.trans e2).trans e3⟩
      · walk_at "go"
        exact ⟨n0, hn00, hn01, rfl, e1.trans e2⟩
    obtain ⟨n, hn0, hn1, rfl, e2⟩ := hz
    have hS2 := e2.src
    walk_at "go"
    rw [show ((n : Int) - 1) = ((n - 1 : Nat) : Int) by omega]
    refine ⟨by omega, by omega, fun D hD => ?_⟩
    rw [Int.toNat_natCast]
    refine rng0_lc (RowL S H2 D m n) (RowL.start hS2 hD) (fun i H6 hi hz => ?_) (fun H6 hz => ?_)
    · walk_at "go"
      refine ⟨by omega, by omega, fun E hE => ?_⟩
      rw [Int.toNat_natCast]
      refine rng0_lc (CelInv S H6 E n) (CelInv.start hz.src hE) (fun j H7 hj hc => ?_) (fun H7 hc => ?_)
      · walk_at "go"
        refine ⟨S, a, _, rfl, ha, hc.src, by decide, by decide, fun x H8 g2 g3 e8 => ?_⟩
        obtain ⟨x, rfl⟩ := Int.eq_ofNat_of_zero_le g2
        walk_at "go"
        have hmin : ∃ mo : Nat, mo < n ∧ (if ((i : Int) + 1 + (x : Int)) < ((n : Int) - 1) then ((i : Int) + 1 + (x : Int)) else ((n : Int) - 1)) = (mo : Int) := by
          by_cases h : ((i : Int) + 1 + (x : Int)) < ((n : Int) - 1)
          · exact ⟨i + 1 + x, by omega, by rw [if_pos h]; omega⟩
          · exact ⟨n - 1, by omega, by rw [if_neg h]; omega⟩
        obtain ⟨mo, hmo, hmoe⟩ := hmin
        refine ⟨_, _, rfl, ?_⟩
        rw [hmoe]
        exact hc.add hz.src hE e8 (u := mo) hmo (by omega)
      · exact hz.step hS2 hD hE hc (by omega)
    have hDS : ¬ S D := hS2.notin hD
    have hD6 := (let ⟨_, bs3, _, h, _⟩ := hz; (⟨bs3, h⟩ : ∃ bs3 : List Addr, H6 D = some (HO.lst (bs3.map V.ref))))
    obtain ⟨bs3, hD6⟩ := hD6
    walk_at "go"
    refine ⟨by omega, by omega, fun E hE => ?_⟩
    rw [Int.toNat_natCast]
    refine rng0_lc (CelInv S H6 E n) (CelInv.start hz.src hE) (fun j H7 hj hc => ?_) (fun H7 hc => ?_)
    · walk_at "go"
      rw [show ((n : Int) - 1) = ((n - 1 : Nat) : Int) by omega]
      exact hc.add hz.src hE (Ev.refl hc.src) (u := n - 1) (by omega) (by omega)
    obtain ⟨acc, h1, h3, h2⟩ := hz.step hS2 hD hE hc (by omega)
    walk_at "go"
    refine ⟨D, acc, _, rfl, rfl, h1, h3, ?_⟩
    clear hz hc hD6
    generalize (upd H7 D (.lst (acc ++ [.ref E]))) = H8 at *
    clear hE h1 h3
    rw [show n - 1 + 1 = n by omega] at h2
    have e8 := h2.1
    have hS8 := e8.src
    walk_at "go"
    rw [show ((n : Int) - 1) = ((n - 1 : Nat) : Int) by omega]
    refine ⟨by omega, by omega, fun G hG => ?_⟩
    rw [Int.toNat_natCast]
    refine rng0_lc (FilInv S H8 G) (FilInv.start hS8 hG) (fun i H9 hi hf => ?_) (fun H9 hf => ?_)
    · walk_at "go"
      refine ⟨S, a, _, rfl, ha, hf.src, by decide, by decide, fun x H10 g2 g3 e10 => ?_⟩
      walk_at "go"
      refine iteD (fun hx => ?_) (fun hx => ?_)
      · walk_at "go"
        exact hf.add hS8 hG e10 (by omega)
      · exact hf.skip hS8 hG e10
    have hfin : FinAt S H2 D G m n H9 := by
      obtain ⟨e9, gd, hG9, hgp, hgl, _⟩ := hf
      obtain ⟨_, bs, rws, hD8, hbs, hrl, hrw⟩ := h2
      have hDG : D ≠ G := ne_of_none hD8 hG
      refine ⟨e8.trans e9, hD, Ev.free e8 hG, hDG, ⟨bs, rws, e9.at hDS hD8, Paired.mapP hbs fun b r z => ?_, hrl, hrw⟩, gd, hG9, hgp, fun x hx => Nat.lt_of_lt_of_le (hgl x hx) (by omega)⟩
      exact ⟨fun y => y.elim (fun y => z.1 (.inl y)) fun y => y.elim (fun y => z.1 (.inr (.inl y))) fun y => y.elim (fun y => ne_of_none z.2 hG y) fun y => z.1 (.inr (.inr y)), e9.at (fun y => z.1 (.inl y)) z.2⟩
    clear hf h2
    walk_at "go"
    refine ⟨S, a, _, rfl, ha, hfin.1.src, by decide, by decide, fun way H10 g2 g3 e10 => ?_⟩
    have hfin : FinAt S H2 D G m n H10 := by
      obtain ⟨f1, f2, f3, f4, ⟨bs, rws, f5, f6, f7, f8⟩, gd, f9, f10⟩ := hfin
      have hGS : ¬ S G := hS2.notin f3
      exact ⟨f1.trans e10, f2, f3, f4, ⟨bs, rws, e10.at hDS f5, Paired.mapP f6 fun b r z => ⟨z.1, e10.at (fun y => z.1 (.inl y)) z.2⟩, f7, f8⟩, gd, e10.at hGS f9, f10⟩
    clear e10
    have hGS : ¬ S G := hS2.notin hfin.2.2.1
    walk_at "go"
    show C8.tCut _ _ _ _ _
    refine i_cut (fun σ H' => ∃ (N : Nat) (x : Option V), n ≤ N ∧ N ≤ 60 ∧ σ = [some (.ref a), some (.int (m : Int)), some (vn n), some (.ref D), some (.ref G), some (.int way), none, none, none, none] ∧ FinAt S H2 D G m N H' ∧ x = x) ?_ (fun σ H11 hq => ?_)
    · walk_at "go"
      refine iteD (fun hx => ?_) (fun hx => ?_)
      · obtain ⟨f1, f2, f3, f4, ⟨bs, rws, f5, f6, f7, f8⟩, gd, f9, f10⟩ := hfin
        walk_at "go"
        refine ⟨by omega, by omega, fun E hE => ?_⟩
        rw [Int.toNat_natCast]
        refine rng0_lc (CelInv S H10 E (n + 1)) (CelInv.start f1.src hE) (fun j H7 hj hc => ?_) (fun H7 hc => ?_)
        · walk_at "go"
          exact hc.add f1.src hE (Ev.refl hc.src) (u := n) (by omega) (by omega)
        obtain ⟨e7, ns, hns, hns2, hE7⟩ := hc
        have hD7 := e7.at hDS f5
        have hG7 := e7.at hGS f9
        have hED : E ≠ D := (ne_of_none f5 hE).symm
        have hEG : E ≠ G := (ne_of_none f9 hE).symm
        have hES : ¬ S E := f1.src.notin hE
        have hbl := f6.length
        have hgl : gd.length ≤ n := nodup_le (f10.inc.imp fun z => Nat.ne_of_lt z) f10.lt
        walk_at "go"
        refine i_append hD7 (by rw [List.length_map]; omega) ?_
        walk_at "go"
        refine i_append (xs := gd.map vn) (by rw [upd_ne f4.symm]; exact hG7) (by rw [List.length_map]; omega) ?_
        walk_at "go"
        refine ⟨n + 1, none, by omega, by omega, rfl, ⟨Ev.put hS2 (Ev.put hS2 (f1.trans e7) f2) f3, f2, f3, f4, ⟨bs ++ [E], rws ++ [ns], by rw [upd_ne f4, upd_same, List.map_append]; rfl, U.Paired.snoc (Paired.mapP f6 fun b r z => ⟨z.1, by rw [upd_ne (fun y => z.1 (.inr (.inr (.inl y)))), upd_ne (fun y => z.1 (.inr (.inl y)))]; exact e7.at (fun y => z.1 (.inl y)) z.2⟩) ⟨fun y => y.elim hES fun y => y.elim hED fun y => y.elim hEG fun y => y (Ev.free f1 hE), by rw [upd_ne hEG, upd_ne hED]; exact hE7⟩, by simp [f7], fun r hr => ?_⟩, gd ++ [n], by rw [upd_same, List.map_append]; rfl, ?_, fun x hx => ?_⟩, rfl⟩
        · rcases List.mem_append.mp hr with hr | hr
          · exact ⟨(f8 r hr).1, fun t ht => Nat.lt_succ_of_lt ((f8 r hr).2 t ht)⟩
          · rw [List.mem_singleton.mp hr]; exact ⟨hns, hns2⟩
        · rw [List.pairwise_append]
          exact ⟨f10.inc, by simp, fun y hy z hz => by rw [List.mem_singleton.mp hz]; exact f10.lt y hy⟩
        · rcases List.mem_append.mp hx with hx | hx
          · exact Nat.lt_succ_of_lt (f10.lt x hx)
          · rw [List.mem_singleton.mp hx]; omega
      · walk_at "go"
        exact ⟨n, none, by omega, by omega, rfl, hfin, rfl⟩
    clear hfin
    obtain ⟨N, _, hN0, hN1, rfl, hfin, _⟩ := hq
    show C8.tCut _ _ _ _ _
    refine i_cut (fun σ H' => ∃ (x6 x7 : Option V), σ = [some (.ref a), some (.int (m : Int)), some (vn n), some (.ref D), some (.ref G), some (.int way), x6, x7, none, none] ∧ FinAt S H2 D G m N H') ?_ (fun σ H12 hq => ?_)
    · walk_at "go"
      refine iteD (fun hx => ?_) (fun hx => ?_)
      · obtain ⟨f1, f2, f3, f4, ⟨bs, rws, f5, f6, f7, f8⟩, gd, f9, f10⟩ := hfin
        walk_at "go"
        refine ⟨S, a, _, rfl, ha, f1.src, by omega, by omega, fun d H13 g4 g5 e13 => ?_⟩
        obtain ⟨d, rfl⟩ := Int.eq_ofNat_of_zero_le g4
        have hD13 := e13.at hDS f5
        have hG13 := e13.at hGS f9
        have f6 : Paired (fun a r => (¬ (S a ∨ a = D ∨ a = G ∨ H2 a ≠ none)) ∧ H13 a = some (.lst ((r : List Nat).map vn))) bs rws := Paired.mapP f6 fun b r z => ⟨z.1, e13.at (fun y => z.1 (.inl y)) z.2⟩
        obtain ⟨b, hb1⟩ : ∃ b, bs[d]? = some b := ⟨_, List.getElem?_eq_getElem (by rw [f6.length]; omega)⟩
        obtain ⟨r0, hr0, hbT, hb3⟩ := Paired.at0 f6 hb1
        have h0 := f8 r0 (List.mem_of_getElem? hr0)
        have hbS : ¬ S b := fun y => hbT (.inl y)
        walk_at "go"
        refine i_ixL hD13 (v := .ref b) (atI_nat (map_at hb1)) ?_
        walk_at "go"
        refine ⟨S, a, _, rfl, ha, e13.src, by omega, by omega, fun x H14 g6 g7 e14 => ?_⟩
        obtain ⟨x, rfl⟩ := Int.eq_ofNat_of_zero_le g6
        walk_at "go"
        refine ⟨S, a, _, rfl, ha, e14.src, by omega, by omega, fun y H15 g8 g9 e15 => ?_⟩
        obtain ⟨y, rfl⟩ := Int.eq_ofNat_of_zero_le g8
        have e45 := e14.trans e15
        have hb5 := e45.at hbS hb3
        refine i_setL hb5 (ixN_nat (by rw [List.length_map, h0.1]; omega)) ?_
        have hset : (r0.map vn).set y (.int (x : Int)) = (r0.set y x).map vn := (List.map_set).symm
        rw [hset]
        have f6 : Paired (fun a r => (¬ (S a ∨ a = D ∨ a = G ∨ H2 a ≠ none)) ∧ H15 a = some (.lst ((r : List Nat).map vn))) bs rws := Paired.mapP f6 fun b r z => ⟨z.1, e45.at (fun y => z.1 (.inl y)) z.2⟩
        obtain ⟨rws', f6', f7', f8'⟩ := rows_set (y := y) hb5 h0 (show x < N by omega) f6 f8
        have hbD : b ≠ D := fun y => hbT (.inr (.inl y))
        have hbG : b ≠ G := fun y => hbT (.inr (.inr (.inl y)))
        have hbH : H2 b = none := Classical.byContradiction fun y => hbT (.inr (.inr (.inr y)))
        walk_at "go"
        exact ⟨_, _, rfl, Ev.put hS2 (f1.trans (e13.trans e45)) hbH, f2, f3, f4, ⟨bs, rws', by rw [upd_ne hbD.symm]; exact e45.at hDS hD13, f6', by rw [f7', f7], f8'⟩, gd, by rw [upd_ne hbG.symm]; exact e45.at hGS hG13, f10⟩
      · walk_at "go"
        exact ⟨_, _, rfl, hfin⟩
    clear hfin
    obtain ⟨x6, x7, rfl, f1, f2, f3, f4, ⟨bs, rws, f5, f6, f7, f8⟩, gd, f9, f10⟩ := hq
    walk_at "go"
    refine ⟨sz2, fun q hq => ?_⟩
    have e9 := Ev.laid (o := .tup [.ref D, .ref G]) f1.src hq
    have wA : WF m rws := wf_of f7 f8 (by omega) hN1 hm
    exact k q rws gd _ (e2.trans (f1.trans e9)) ⟨⟨f1.src.notin hq, D, G, upd_same, ⟨hDS, false, bs, e9.at hDS f5, Paired.mapP f6 fun b r z => ⟨fun y => z.1 (.inl y), false, e9.at (fun y => z.1 (.inl y)) z.2⟩⟩, hGS, false, e9.at hGS f9⟩, wA, by rw [f7]; exact f10⟩
end
abbrev s_law_joint : Stmt := top 77
theorem sc_law_joint : FnScope ["one", "other", "told", "k", "first", "second"] ["one", "other", "told"] (fnScope s_law_joint) := ⟨rfl, rfl, rfl, by decide +kernel, rfl, by decide +kernel, by decide +kernel⟩
theorem op_go {C : Addr} {r : Er} {W : List Nat} {Z : AS} {H : Hp} {p q : Addr} {al : List Nat} {A B : Rws} {gA gB : List Nat} {Q : VK} {E : XK} (hp : Rd C Z H p al A gA) (hq : Rd C Z H q al B gB) (ha : AlOk al) (hwA : WF al.length A) (hwB : WF al.length B) (h60 : A.length * B.length ≤ 60)
    (go : ∀ D gD p' H', Same H H' → Rd C (Old H) H' p' al D gD → WF al.length D → (∀ u, Ok al.length u → (run D 0 u ∈ gD ↔ jf gA gB W (run A 0 u, run B 0 u) = true)) → Q (.ref p') H') : sp_op C r W [.ref p, .ref q] H Q E := by
  refine ⟨Z, p, q, al, A, gA, al, B, gB, rfl, hp, hq, ha, hwA, hwB, fun _ k hk => ?_, fun h => absurd rfl h⟩
  have hlt := j_lt hwA.b hwB.b k
  have hplen : (jAt al.length A B k).length ≤ A.length * B.length := U.pairs_len (g_nd (nx := jn al.length A B) (s := (0, 0)) k) hlt
  have hgl : (gRows (jn al.length A B) (jAt al.length A B k)).length = (jAt al.length A B k).length := gRows_len _ _
  have wJ : WFB al.length (gRows (jn al.length A B) (jAt al.length A B k)) := gRows_wf hk (by have := hk.len; have h2 : (gAt (jn al.length A B) (0, 0) k).length ≤ A.length * B.length := hplen; omega) hwA.m3 (fun x _ => jn_len x)
  refine ⟨fun D gD hL _ p' H' s hp' hR => ?_, fun D gD hL h => absurd (least_len wJ hL) (by omega)⟩
  obtain ⟨wD, oD, lD, cD⟩ := hL.main wJ
  exact go D gD p' H' s hR ⟨wD, Nat.le_trans (least_len wJ hL) (by omega)⟩ fun u hu => (lD u hu).symm.trans (jLang hk _ hu)
theorem least_no {m : Nat} {P : List Nat → Prop} {r : Option (List Nat)} (h : LeastW m P r) (hn : ∀ u, Ok m u → ¬ P u) : r = none := by
  rcases h with ⟨e, _⟩ | ⟨w, _, ow, pw, _⟩
  · exact e
  · exact absurd pw (hn w ow)
def sp_law_joint (C : Addr) (r : Er) : Sp := fun vs H Q _ => ∃ (Z : AS) (p q t : Addr) (al : List Nat) (A : Rws) (gA : List Nat) (B : Rws) (gB : List Nat) (r0 r1 r2 : Option (List Nat)), vs = [.ref p, .ref q, .ref t] ∧ Rd C Z H p al A gA ∧ Rd C Z H q al B gB ∧ AlOk al ∧ WF al.length A ∧ WF al.length B ∧ A.length * B.length ≤ 60 ∧
  H t = some (.lst [txtO al r0, txtO al r1, txtO al r2]) ∧ LeastW al.length (fun u => jf gA gB [1] (run A 0 u, run B 0 u) = true) r1 ∧ LeastW al.length (fun u => jf gB gA [1] (run B 0 u, run A 0 u) = true) r2 ∧ ∀ H', Same H H' → Q (.bl true) H'
section
variable {P : Program} {w : World} {K : PySem.W.Frag} {mg : Str → Option Value} {base : Heap} {C : Addr} {r : Er}
set_option maxHeartbeats 4000000 in
theorem ok_law_joint {f : Addr} {fd : FuncData} (F : Def K mg "_law_joint" s_law_joint f fd) (T : Txt K mg C r) (b : Binds K fd ["one", "other", "told"] []) (c_nth : Cal P w K mg base 4 "nth" (sp_nth C) []) (c_outside : CalX P w K mg base 6 "outside" (sp_outside C r)) (o_and : OpM P w K mg base 7 C (PySem.dunder Operator.BitAnd.info.2) (sp_Readerd_andd C r)) (o_or : OpM P w K mg base 7 C (PySem.dunder Operator.BitOr.info.2) (sp_Readerd_ord C r)) (o_sub : OpM P w K mg base 7 C (PySem.dunder Operator.Sub.info.2) (sp_Readerd_subd C r)) : Cal P w K mg base 9 "_law_joint" (sp_law_joint C r) [] := by
  refine cal0 F b .nil sc_law_joint (fun vs H Q E h => ?_) (fun cdv A outer s H vs Q E hr h => ?_)
  · obtain ⟨_, _, _, _, _, _, _, _, _, _, _, _, rfl, _⟩ := h
    rfl
  · obtain ⟨Z, p, q, t, al, A, gA, B, gB, r0, r1, r2, rfl, hp, hq, ha, hwA, hwB, h60, ht, hL1, hL2, k⟩ := h
    refine ⟨_, (pss_cons (ps_for PassesOwn.never rfl (pi_range1 (by rfl) T.b_range (pa_cons pe_int pa_nil)) (pg_name (i := 3) sc_law_joint.nd rfl (by first | exact Or.inl rfl | exact Or.inr rfl))
        (pss_cons (ps_set (i := 4) sc_law_joint.nd rfl (by first | exact Or.inl rfl | exact Or.inr rfl) (pe_ix (ixK K rfl) (pe_lst (pa_cons (pv 0) (pa_cons (pv 1) pa_nil))) (pv 3) (fun _ _ => rfl)))
        (pss_cons (ps_set (i := 5) sc_law_joint.nd rfl (by first | exact Or.inl rfl | exact Or.inr rfl) (pe_ix (ixK K rfl) (pe_lst (pa_cons (pv 1) (pa_cons (pv 0) pa_nil))) (pv 3) (fun _ _ => rfl)))
        (pss_cons (ps_if (pt_cmpR op_ne (pe_c c_nth hr (by decide) rfl (pa_cons (pe_ownbin o_sub hr (by decide) takes0 (pv 4) (pv 5)) (pa_cons pe_int pa_nil))) (pe_ix (ixK K rfl) (pv 2) (pe_op op_add pe_int (pv 3)) (fun _ _ => rfl)) (nomark _)) (pss_one (ps_ret pe_bl)) pss_nil)
        (pss_one (ps_if (PW.pt (pw_or (pt_cmpR op_notN1 (pe_cX c_outside hr (by decide) takes0 rfl (pa_cons (pe_ownbin o_and hr (by decide) takes0 (pv 4) (pv 5)) (pa_cons (pv 4) pa_nil))) pe_non (nomark _)) (pw_or1 (pt_cmpR op_notN1 (pe_cX c_outside hr (by decide) takes0 rfl (pa_cons (pv 4) (pa_cons (pe_ownbin o_or hr (by decide) takes0 (pv 4) (pv 5)) pa_nil))) pe_non (nomark _))))) (pss_one (ps_ret pe_bl)) pss_nil))))))
        (pss_one (ps_ret pe_bl))), ?_⟩
    walk_at "go"
    have at2 : ∀ n : Nat, n < 2 → ∃ (pa pb : Addr) (A' : Rws) (gA' : List Nat) (B' : Rws) (gB' : List Nat) (r' : Option (List Nat)), atI ([.ref p, .ref q] : List V) (n : Int) = some (.ref pa) ∧ atI ([.ref q, .ref p] : List V) (n : Int) = some (.ref pb) ∧ atI ([txtO al r0, txtO al r1, txtO al r2] : List V) (1 + (n : Int)) = some (txtO al r') ∧ Rd C Z H pa al A' gA' ∧ Rd C Z H pb al B' gB' ∧ WF al.length A' ∧ WF al.length B' ∧ A'.length * B'.length ≤ 60 ∧ LeastW al.length (fun u => jf gA' gB' [1] (run A' 0 u, run B' 0 u) = true) r' := fun n hn => by
      have : n = 0 ∨ n = 1 := by omega
      rcases this with rfl | rfl
      · exact ⟨p, q, A, gA, B, gB, r1, rfl, rfl, rfl, hp, hq, hwA, hwB, h60, hL1⟩
      · exact ⟨q, p, B, gB, A, gA, r2, rfl, rfl, rfl, hq, hp, hwB, hwA, by rw [Nat.mul_comm]; exact h60, hL2⟩
    refine ⟨by decide, by decide, ?_⟩
    refine rng0_for (n := 2) (fun i σ H1 => ∃ (x3 x4 x5 : Option V), σ = [some (.ref p), some (.ref q), some (.ref t), x3, x4, x5] ∧ Same H H1) ⟨none, none, none, rfl, Same.refl H⟩ (fun i σ H1 hi hz => ?_) (fun σ H1 hz => ?_)
    · obtain ⟨x3, x4, x5, rfl, s1⟩ := hz
      obtain ⟨pa, pb, A', gA', B', gB', r', i1, i2, i3, hpa, hpb, wA, wB, hAB, hLe⟩ := at2 i hi
      walk_at "go"
      refine ⟨sz2, fun L1 hL1' => ?_⟩
      walk_at "go"
      refine i_ixL upd_same i1 ?_
      walk_at "go"
      refine ⟨sz2, fun L2 hL2' => ?_⟩
      walk_at "go"
      refine i_ixL upd_same i2 ?_
      have s2 : Same H (upd (upd H1 L1 (.lst [.ref p, .ref q])) L2 (.lst [.ref q, .ref p])) := (s1.trans (same_laid hL1')).trans (same_laid hL2')
      generalize (upd (upd H1 L1 (.lst [.ref p, .ref q])) L2 (.lst [.ref q, .ref p])) = H2 at *
      have ha2 := hpa.same s2
      have hb2 := hpb.same s2
      obtain ⟨_, dxa, pma, pga, ha21, _⟩ := id ha2
      obtain ⟨_, dxb, pmb, pgb, hb21, _⟩ := id hb2
      walk_at "go"
      refine ⟨pa, dxa, _, pb, dxb, _, rfl, rfl, ha21, hb21, op_go (W := [1]) ha2 hb2 ha wA wB hAB fun D gD p' H3 s3 hR wD lang => ⟨⟨_, rfl⟩, ?_⟩⟩
      walk_at "go"
      refine ⟨Old H2, p', al, D, gD, 0, rfl, hR, ha, wD, by decide, fun res H4 s4 hres hrl => ?_⟩
      have e : res = r' := (nth0 wD.b hres).uniq hLe lang
      subst e
      have s04 := (s2.trans s3).trans s4
      walk_at "go"
      refine i_ixL (s04 _ _ ht) i3 ?_
      refine i_neTO ?_
      walk_at "go"
      have ha4 := hpa.same s04
      have hb4 := hpb.same s04
      have s34 := s3.trans s4
      refine ⟨pa, dxa, _, pb, dxb, _, rfl, rfl, s34 _ _ ha21, s34 _ _ hb21, op_go (W := [3]) ha4 hb4 ha wA wB hAB fun D3 g3 p3 H5 s5 hR5 wD5 lang5 => ⟨⟨_, rfl⟩, ?_⟩⟩
      walk_at "go"
      refine ⟨fun _ => False, p3, pa, al, D3, g3, al, A', gA', rfl, hR5.weak fun _ z => z.elim, (ha4.same s5).weak fun _ z => z.elim, ha, wD5, wA, fun _ res5 H6 hres5 hrl5 s6 => ?_, fun z => absurd rfl z⟩
      have e5 : res5 = none := least_no hres5 fun u ou hu => by
        have h1 := lang5 u ou
        by_cases hx : run A' 0 u ∈ gA' <;> by_cases hy : run B' 0 u ∈ gB' <;> by_cases hz : run D3 0 u ∈ g3 <;> simp [jf, hx, hy, hz] at h1 hu
      subst e5
      walk_at "go"
      refine ite_ndf rfl ?_
      walk_at "go"
      have s06 := (s04.trans s5).trans s6
      have s56 := s5.trans s6
      have ha6 := hpa.same s06
      have hb6 := hpb.same s06
      refine ⟨pa, dxa, _, pb, dxb, _, rfl, rfl, s56 _ _ (s34 _ _ ha21), s56 _ _ (s34 _ _ hb21), op_go (W := [1, 2, 3]) ha6 hb6 ha wA wB hAB fun D7 g7 p7 H7 s7 hR7 wD7 lang7 => ⟨⟨_, rfl⟩, ?_⟩⟩
      walk_at "go"
      refine ⟨fun _ => False, pa, p7, al, A', gA', al, D7, g7, rfl, (ha6.same s7).weak fun _ z => z.elim, hR7.weak fun _ z => z.elim, ha, wA, wD7, fun _ res7 H8 hres7 hrl7 s8 => ?_, fun z => absurd rfl z⟩
      have e7 : res7 = none := least_no hres7 fun u ou hu => by
        have h1 := lang7 u ou
        by_cases hx : run A' 0 u ∈ gA' <;> by_cases hy : run B' 0 u ∈ gB' <;> by_cases hz : run D7 0 u ∈ g7 <;> simp [jf, hx, hy, hz] at h1 hu
      subst e7
      walk_at "go"
      refine ite_ndf rfl ?_
      walk_at "go"
      exact ⟨_, _, _, rfl, (s06.trans s7).trans s8⟩
    · obtain ⟨x3, x4, x5, rfl, s1⟩ := hz
      walk_at "go"
      exact k H1 s1
end
abbrev s_law_right : Stmt := top 79
theorem sc_law_right : FnScope ["alphabet", "plains", "readers", "dues", "told", "k"] ["alphabet", "plains", "readers"] (fnScope s_law_right) := ⟨rfl, rfl, rfl, by decide +kernel, rfl, by decide +kernel, by decide +kernel⟩
theorem own_eq {C : Addr} {E : XK} {Z Z' : AS} {H : Hp} {p q : Addr} {al : List Nat} {rs : Rws} {gd : List Nat} {rs' : Rws} {gd' : List Nat} {Q : VK} (hp : U.Rd C Z H p al rs gd) (hq : U.Rd C Z' H q al rs' gd') (h1 : rs.length ≤ 60) (h2 : rs'.length ≤ 60) (k : Q (.bl (decide (rs = rs' ∧ gd = gd'))) H) : rOwnEq C (sp_Readerd_eqd C) E (.ref p) (.ref q) H Q := by
  obtain ⟨_, dx, pm, pg, a1, _, _⟩ := id hp
  obtain ⟨_, dy, qm, qg, b1, _, _⟩ := id hq
  exact ⟨p, dx, _, q, dy, _, rfl, rfl, a1, b1, fun _ => False, p, q, al, rs, gd, rs', gd', rfl, hp.weak fun _ z => z.elim, hq.weak fun _ z => z.elim, h1, h2, _, rfl, k⟩
theorem txtO_non (al : List Nat) (res : Option (List Nat)) : decide (txtO al res = V.non) = decide (res = none) := by
  cases res with
  | none => rfl
  | some u => rw [decide_eq_false (by intro z; cases z), decide_eq_false (by intro z; cases z)]
theorem jf_one (gA gB : List Nat) (x y : Nat) : jf gA gB [1, 2] (x, y) = true ↔ (jf gA gB [1] (x, y) = true ∨ jf gB gA [1] (y, x) = true) := by
  by_cases hx : x ∈ gA <;> by_cases hy : y ∈ gB <;> simp [jf, hx, hy]
theorem jf_sym (gA gB : List Nat) (x y : Nat) : jf gA gB [1, 2] (x, y) = jf gB gA [1, 2] (y, x) := by
  by_cases hx : x ∈ gA <;> by_cases hy : y ∈ gB <;> simp [jf, hx, hy]
theorem jf_ne (gA gB : List Nat) (x y : Nat) : jf gA gB [1, 2] (x, y) = true ↔ ¬ (x ∈ gA ↔ y ∈ gB) := by
  by_cases hx : x ∈ gA <;> by_cases hy : y ∈ gB <;> simp [jf, hx, hy]
def sp_law_right (C : Addr) (r : Er) : Sp := fun vs H Q _ => ∃ (al : List Nat) (pP pR p0 p1 p2 r0 r1 r2 : Addr) (A : Rws) (gA : List Nat) (B : Rws) (gB : List Nat), vs = [.str (SX.S al), .ref pP, .ref pR] ∧ H pP = some (.lst [.ref p0, .ref p1, .ref p2]) ∧ H pR = some (.lst [.ref r0, .ref r1, .ref r2]) ∧
  Mach (fun _ => False) H p0 A gA ∧ Mach (fun _ => False) H p1 B gB ∧ Rd C (fun _ => False) H r0 al A gA ∧ Rd C (fun _ => False) H r1 al B gB ∧ AlOk al ∧ WF al.length A ∧ WF al.length B ∧ ∀ H', Same H H' → Q (.bl true) H'
section
variable {P : Program} {w : World} {K : PySem.W.Frag} {mg : Str → Option Value} {base : Heap} {C : Addr} {r : Er}
set_option maxHeartbeats 4000000 in
theorem ok_law_right {f : Addr} {fd : FuncData} (F : Def K mg "_law_right" s_law_right f fd) (T : Txt K mg C r) (b : Binds K fd ["alphabet", "plains", "readers"] []) (c_law_due : Cal P w K mg base 2 "_law_due" sp_law_due []) (c_outside : CalX P w K mg base 6 "outside" (sp_outside C r)) (c_parted : CalX P w K mg base 6 "parted" (sp_parted C r)) (c_law_short : Cal P w K mg base 3 "_law_short" sp_law_short []) (c_law_lesser : Cal P w K mg base 1 "_law_lesser" sp_law_lesser []) (c_least : Cal P w K mg base 6 "least" (sp_least C) []) (c_law_joint : Cal P w K mg base 9 "_law_joint" (sp_law_joint C r) []) (o_eq : OwnCal P w K mg base 1 C "__eq__" (sp_Readerd_eqd C)) : Cal P w K mg base 10 "_law_right" (sp_law_right C r) [] := by
  refine cal0 F b .nil sc_law_right (fun vs H Q E h => ?_) (fun cdv A outer s H vs Q E hr h => ?_)
  · obtain ⟨_, _, _, _, _, _, _, _, _, _, _, _, _, rfl, _⟩ := h
    rfl
  · obtain ⟨al, pP, pR, p0, p1, p2, r0, r1, r2, A, gA, B, gB, rfl, hP, hR, hm0, hm1, hr0, hr1, ha, hwA, hwB, k⟩ := h
    refine ⟨_, (pss_cons (ps_set (i := 3) sc_law_right.nd rfl (by first | exact Or.inl rfl | exact Or.inr rfl) (pe_lst (pa_cons (pe_c c_law_due hr (by decide) rfl (pa_cons (pv 0) (pa_cons (pe_ix (ixK K rfl) (pv 1) pe_int (fun _ _ => rfl)) (pa_cons (pe_ix (ixK K rfl) (pv 1) pe_int (fun _ _ => rfl)) (pa_cons pe_str pa_nil))))) (pa_cons (pe_c c_law_due hr (by decide) rfl (pa_cons (pv 0) (pa_cons (pe_ix (ixK K rfl) (pv 1) pe_int (fun _ _ => rfl)) (pa_cons (pe_ix (ixK K rfl) (pv 1) pe_int (fun _ _ => rfl)) (pa_cons pe_str pa_nil))))) (pa_cons (pe_c c_law_due hr (by decide) rfl (pa_cons (pv 0) (pa_cons (pe_ix (ixK K rfl) (pv 1) pe_int (fun _ _ => rfl)) (pa_cons (pe_ix (ixK K rfl) (pv 1) pe_int (fun _ _ => rfl)) (pa_cons pe_str pa_nil))))) pa_nil)))))
        (pss_cons (ps_set (i := 4) sc_law_right.nd rfl (by first | exact Or.inl rfl | exact Or.inr rfl) (pe_lst (pa_cons (pe_cX c_parted hr (by decide) takes0 rfl (pa_cons (pe_ix (ixK K rfl) (pv 2) pe_int (fun _ _ => rfl)) (pa_cons (pe_ix (ixK K rfl) (pv 2) pe_int (fun _ _ => rfl)) pa_nil))) (pa_cons (pe_cX c_outside hr (by decide) takes0 rfl (pa_cons (pe_ix (ixK K rfl) (pv 2) pe_int (fun _ _ => rfl)) (pa_cons (pe_ix (ixK K rfl) (pv 2) pe_int (fun _ _ => rfl)) pa_nil))) (pa_cons (pe_cX c_outside hr (by decide) takes0 rfl (pa_cons (pe_ix (ixK K rfl) (pv 2) pe_int (fun _ _ => rfl)) (pa_cons (pe_ix (ixK K rfl) (pv 2) pe_int (fun _ _ => rfl)) pa_nil))) pa_nil)))))
        (pss_cons (ps_for PassesOwn.never rfl (pi_range1 (by rfl) T.b_range (pa_cons pe_int pa_nil)) (pg_name (i := 5) sc_law_right.nd rfl (by first | exact Or.inl rfl | exact Or.inr rfl))
        (pss_one (ps_if (PW.pt (pw_or (PW.pt (pw_and (pt_cmpR op_notN1 (pe_ix (ixK K rfl) (pv 4) (pv 5) (fun _ _ => rfl)) pe_non (nomark _)) (pw_and1 (pt_not (pt_val (pe_callB (isiK K rfl) (by rfl) T.b_isinstance (by decide +kernel) (pa_cons (pe_ix (ixK K rfl) (pv 4) (pv 5) (fun _ _ => rfl)) (pa_cons (pe_bltn (v := .ty "str") (u := .type "str") (by rfl) T.b_str (by decide +kernel) rfl) pa_nil)))))))) (pw_or1 (pt_cmpR op_ne (pe_ix (ixK K rfl) (pv 4) (pv 5) (fun _ _ => rfl)) (pe_ix (ixK K rfl) (pv 3) (pv 5) (fun _ _ => rfl)) (nomark _))))) (pss_one (ps_ret pe_bl)) pss_nil)))
        (pss_cons (ps_if (pt_not (pt_val (pe_c c_law_short hr (by decide) rfl (pa_cons (pv 0) (pa_cons (pe_ix (ixK K rfl) (pv 1) pe_int (fun _ _ => rfl)) (pa_cons (pe_ix (ixK K rfl) (pv 1) pe_int (fun _ _ => rfl)) (pa_cons pe_str (pa_cons (pe_ix (ixK K rfl) (pv 4) pe_int (fun _ _ => rfl)) pa_nil)))))))) (pss_one (ps_ret pe_bl)) pss_nil)
        (pss_cons (ps_if (pt_not (pt_val (pe_c c_law_short hr (by decide) rfl (pa_cons (pv 0) (pa_cons (pe_ix (ixK K rfl) (pv 1) pe_int (fun _ _ => rfl)) (pa_cons (pe_ix (ixK K rfl) (pv 1) pe_int (fun _ _ => rfl)) (pa_cons pe_str (pa_cons (pe_ix (ixK K rfl) (pv 4) pe_int (fun _ _ => rfl)) pa_nil)))))))) (pss_one (ps_ret pe_bl)) pss_nil)
        (pss_cons (ps_if (pt_not (pt_val (pe_c c_law_short hr (by decide) rfl (pa_cons (pv 0) (pa_cons (pe_ix (ixK K rfl) (pv 1) pe_int (fun _ _ => rfl)) (pa_cons (pe_ix (ixK K rfl) (pv 1) pe_int (fun _ _ => rfl)) (pa_cons pe_str (pa_cons (pe_ix (ixK K rfl) (pv 4) pe_int (fun _ _ => rfl)) pa_nil)))))))) (pss_one (ps_ret pe_bl)) pss_nil)
        (pss_cons (ps_if (PW.pt (pw_or (pt_cmpR op_ne (pe_ix (ixK K rfl) (pv 4) pe_int (fun _ _ => rfl)) (pe_c c_law_lesser hr (by decide) rfl (pa_cons (pe_ix (ixK K rfl) (pv 4) pe_int (fun _ _ => rfl)) (pa_cons (pe_ix (ixK K rfl) (pv 4) pe_int (fun _ _ => rfl)) pa_nil))) (nomark _)) (pw_or1 (pt_cmpR op_ne (pe_cX c_parted hr (by decide) takes0 rfl (pa_cons (pe_ix (ixK K rfl) (pv 2) pe_int (fun _ _ => rfl)) (pa_cons (pe_ix (ixK K rfl) (pv 2) pe_int (fun _ _ => rfl)) pa_nil))) (pe_ix (ixK K rfl) (pv 4) pe_int (fun _ _ => rfl)) (nomark _))))) (pss_one (ps_ret pe_bl)) pss_nil)
        (pss_cons (ps_if (pt_cmpR op_ne (pe_cmpR (ownEq o_eq hr (by decide)) (pe_c c_least hr (by decide) rfl (pa_cons (pe_ix (ixK K rfl) (pv 2) pe_int (fun _ _ => rfl)) pa_nil)) (pe_c c_least hr (by decide) rfl (pa_cons (pe_ix (ixK K rfl) (pv 2) pe_int (fun _ _ => rfl)) pa_nil)) (nomark _)) (pe_cmpR op_isN1 (pe_ix (ixK K rfl) (pv 4) pe_int (fun _ _ => rfl)) pe_non (nomark _)) (nomark _)) (pss_one (ps_ret pe_bl)) pss_nil)
        (pss_cons (ps_if (PW.pt (pw_and (pt_cmpR op_le (pe_op op_mul (pe_callB (lenK K rfl) (by rfl) T.b_len (by decide +kernel) (pa_cons (pe_ix (ixK K rfl) (pe_ix (ixK K rfl) (pv 1) pe_int (fun _ _ => rfl)) pe_int (fun _ _ => rfl)) pa_nil)) (pe_callB (lenK K rfl) (by rfl) T.b_len (by decide +kernel) (pa_cons (pe_ix (ixK K rfl) (pe_ix (ixK K rfl) (pv 1) pe_int (fun _ _ => rfl)) pe_int (fun _ _ => rfl)) pa_nil))) pe_int (nomark _)) (pw_and1 (pt_not (pt_val (pe_c c_law_joint hr (by decide) rfl (pa_cons (pe_ix (ixK K rfl) (pv 2) pe_int (fun _ _ => rfl)) (pa_cons (pe_ix (ixK K rfl) (pv 2) pe_int (fun _ _ => rfl)) (pa_cons (pv 4) pa_nil))))))))) (pss_one (ps_ret pe_bl)) pss_nil)
        (pss_one (ps_ret (pe_and (pe_cmpR op_isN1 (pe_cX c_parted hr (by decide) takes0 rfl (pa_cons (pe_ix (ixK K rfl) (pv 2) pe_int (fun _ _ => rfl)) (pa_cons (pe_ix (ixK K rfl) (pv 2) pe_int (fun _ _ => rfl)) pa_nil))) pe_non (nomark _)) (pe_one (pe_cmpR op_isN1 (pe_cX c_outside hr (by decide) takes0 rfl (pa_cons (pe_ix (ixK K rfl) (pv 2) pe_int (fun _ _ => rfl)) (pa_cons (pe_ix (ixK K rfl) (pv 2) pe_int (fun _ _ => rfl)) pa_nil))) pe_non (nomark _))))))))))))))), ?_⟩
    have hleA := hwA.le
    have hleB := hwB.le
    have hone : (("one" : Str), [1, 2]) ∈ hW := by simp [hW]
    have hout : (("out" : Str), [1]) ∈ hW := by simp [hW]
    have ls3 : ∀ {x y z : V}, [x, y, z].length ≤ sizeLine := fun {_ _ _} => sz3
    walk_at "go"
    refine ⟨fun _ => False, al, p0, p1, A, gA, B, gB, "one", [1, 2], rfl, hone, hm0, hm1, ha, hwA, hwB, fun d0 H1 s1 hd0 hl0 => ?_⟩
    have hP1 := s1 _ _ hP
    walk_at "go"
    refine ⟨fun _ => False, al, p0, p1, A, gA, B, gB, "out", [1], rfl, hout, hm0.same s1, hm1.same s1, ha, hwA, hwB, fun d1 H2 s2 hd1 hl1 => ?_⟩
    have s02 := s1.trans s2
    have hP2 := s02 _ _ hP
    walk_at "go"
    refine ⟨fun _ => False, al, p1, p0, B, gB, A, gA, "out", [1], rfl, hout, hm1.same s02, hm0.same s02, ha, hwB, hwA, fun d2 H3 s3 hd2 hl2 => ?_⟩
    have s03 := s02.trans s3
    walk_at "go"
    refine ⟨sz3, fun Ld hLd => ?_⟩
    have s04 := s03.trans (same_laid (o := .lst [txtO al d0, txtO al d1, txtO al d2]) hLd)
    have hD4 : (upd H3 Ld (.lst [txtO al d0, txtO al d1, txtO al d2])) Ld = some (.lst [txtO al d0, txtO al d1, txtO al d2]) := upd_same
    generalize (upd H3 Ld (.lst [txtO al d0, txtO al d1, txtO al d2])) = H4 at *
    have hR4 := s04 _ _ hR
    walk_at "go"
    refine ⟨fun _ => False, r0, r1, al, A, gA, al, B, gB, rfl, hr0.same s04, hr1.same s04, ha, hwA, hwB, fun _ t0 H5 ht0 _ s5 => ?_, fun z => absurd rfl z⟩
    have s05 := s04.trans s5
    have hR5 := s05 _ _ hR
    walk_at "go"
    refine ⟨fun _ => False, r0, r1, al, A, gA, al, B, gB, rfl, hr0.same s05, hr1.same s05, ha, hwA, hwB, fun _ t1 H6 ht1 _ s6 => ?_, fun z => absurd rfl z⟩
    have s06 := s05.trans s6
    have hR6 := s06 _ _ hR
    walk_at "go"
    refine ⟨fun _ => False, r1, r0, al, B, gB, al, A, gA, rfl, hr1.same s06, hr0.same s06, ha, hwB, hwA, fun _ t2 H7 ht2 _ s7 => ?_, fun z => absurd rfl z⟩
    have s07 := s06.trans s7
    have s47 := (s5.trans s6).trans s7
    have e0 : t0 = d0 := ht0.uniq hd0 fun u _ => Iff.rfl
    have e1 : t1 = d1 := ht1.uniq hd1 fun u _ => Iff.rfl
    have e2 : t2 = d2 := ht2.uniq hd2 fun u _ => Iff.rfl
    subst e0
    subst e1
    subst e2
    walk_at "go"
    refine ⟨sz3, fun Lt hLt => ?_⟩
    have s78 : Same H7 (upd H7 Lt (.lst [txtO al t0, txtO al t1, txtO al t2])) := same_laid hLt
    have s08 := s07.trans s78
    have hT8 : (upd H7 Lt (.lst [txtO al t0, txtO al t1, txtO al t2])) Lt = some (.lst [txtO al t0, txtO al t1, txtO al t2]) := upd_same
    have hD8 := s78 _ _ (s47 _ _ hD4)
    generalize (upd H7 Lt (.lst [txtO al t0, txtO al t1, txtO al t2])) = H8 at *
    have at3 : ∀ n : Nat, n < 3 → ∃ r', atI ([txtO al t0, txtO al t1, txtO al t2] : List V) (n : Int) = some (txtO al r') := fun n hn => by
      have : n = 0 ∨ n = 1 ∨ n = 2 := by omega
      rcases this with rfl | rfl | rfl
      · exact ⟨t0, rfl⟩
      · exact ⟨t1, rfl⟩
      · exact ⟨t2, rfl⟩
    walk_at "go"
    refine ⟨by decide, by decide, ?_⟩
    refine rng0_for (n := 3) (fun i σ H9 => ∃ (x5 : Option V), σ = [some (.str (SX.S al)), some (.ref pP), some (.ref pR), some (.ref Ld), some (.ref Lt), x5] ∧ H9 = H8) ⟨none, rfl, rfl⟩ (fun i σ H9 hi hz => ?_) (fun σ H9 hz => ?_)
    · obtain ⟨x5, rfl, eH⟩ := hz
      subst eH
      obtain ⟨r', hr'⟩ := at3 i hi
      walk_at "go"
      refine i_ixL hT8 hr' ?_
      walk_at "go"
      cases r' with
      | none =>
        refine ite_ndf rfl ?_
        walk_at "go"
        refine i_ixL hT8 hr' ?_
        walk_at "go"
        refine i_ixL hD8 hr' ?_
        refine i_neTO ?_
        walk_at "go"
        exact ⟨_, rfl, rfl⟩
      | some u =>
        refine ite_ndt (by intro z; cases z) ?_
        walk_at "go"
        refine i_ixL hT8 hr' ?_
        walk_at "go"
        refine i_isi (x := V.str (SX.S (spl al u))) (.base (.str _)) (r := true) (by decide +kernel) ?_
        walk_at "go"
        refine i_ixL hT8 hr' ?_
        walk_at "go"
        refine i_ixL hD8 hr' ?_
        refine i_neTO ?_
        walk_at "go"
        exact ⟨_, rfl, rfl⟩
    obtain ⟨x5, rfl, eH⟩ := hz
    subst eH
    have hP8 := s08 _ _ hP
    have hR8 := s08 _ _ hR
    walk_at "go"
    refine ⟨fun _ => False, al, p0, p1, A, gA, B, gB, "one", [1, 2], t0, rfl, hone, hm0.same s08, hm1.same s08, ha, hwA, hwB, ht0, hl0, fun H9 s9 => ?_⟩
    have s09 := s08.trans s9
    have hP9 := s9 _ _ hP8
    have hT9 := s9 _ _ hT8
    walk_at "go"
    refine ⟨fun _ => False, al, p0, p1, A, gA, B, gB, "out", [1], t1, rfl, hout, hm0.same s09, hm1.same s09, ha, hwA, hwB, ht1, hl1, fun H10 s10 => ?_⟩
    have s010 := s09.trans s10
    have hP10 := s10 _ _ hP9
    have hT10 := s10 _ _ hT9
    walk_at "go"
    refine ⟨fun _ => False, al, p1, p0, B, gB, A, gA, "out", [1], t2, rfl, hout, hm1.same s010, hm0.same s010, ha, hwB, hwA, ht2, hl2, fun H11 s11 => ?_⟩
    have s011 := s010.trans s11
    have hT11 := s11 _ _ hT10
    have hR11 := s011 _ _ hR
    walk_at "go"
    refine ⟨al, t1, t2, rfl, ha, fun u e => ⟨(lw_okr ht1 u e).1, hl1 u e⟩, fun u e => ⟨(lw_okr ht2 u e).1, hl2 u e⟩, ?_⟩
    have emin : minW al.length t1 t2 = t0 := (ht1.or ht2).uniq ht0 fun u _ => (jf_one gA gB _ _).symm
    rw [emin]
    refine i_neTO ?_
    walk_at "go"
    refine ⟨fun _ => False, r1, r0, al, B, gB, al, A, gA, rfl, hr1.same s011, hr0.same s011, ha, hwB, hwA, fun _ t3 H12 ht3 _ s12 => ?_, fun z => absurd rfl z⟩
    have e3 : t3 = t0 := ht3.uniq ht0 fun u _ => by rw [jf_sym]
    subst e3
    have s012 := s011.trans s12
    have hT12 := s12 _ _ hT11
    have hR12 := s012 _ _ hR
    walk_at "go"
    refine i_neTO ?_
    walk_at "go"
    refine ⟨fun _ => False, r0, al, A, gA, rfl, hr0.same s012, ha, hwA, fun A' gA' q0 H13 hLA s13 _ hq0 => ?_⟩
    have s013 := s012.trans s13
    have hR13 := s013 _ _ hR
    walk_at "go"
    refine ⟨fun _ => False, r1, al, B, gB, rfl, hr1.same s013, ha, hwB, fun B' gB' q1 H14 hLB s14 _ hq1 => ?_⟩
    obtain ⟨wA', oA', lA', cA'⟩ := hLA.main hwA.b
    obtain ⟨wB', oB', lB', cB'⟩ := hLB.main hwB.b
    refine own_eq (hq0.same s14) hq1 (Nat.le_trans (least_len hwA.b hLA) hwA.le) (Nat.le_trans (least_len hwB.b hLB) hwB.le) ?_
    have s014 := s013.trans s14
    have hT14 := s14 _ _ (s13 _ _ hT12)
    have hP14 := s014 _ _ hP
    have hR14 := s014 _ _ hR
    walk_at "go"
    rw [txtO_non]
    have eqd : decide (A' = B' ∧ gA' = gB') = decide (t3 = none) := by
      by_cases h : t3 = none
      · rw [decide_eq_true h]
        subst h
        refine decide_eq_true (canon_uniq wA' wB' oA' oB' cA' cB' fun u hu => ?_)
        rw [← lA' u hu, ← lB' u hu]
        rcases ht0 with ⟨_, hn⟩ | ⟨_, z, _⟩
        · exact Classical.byContradiction fun hne => hn u hu ((jf_ne gA gB _ _).mpr hne)
        · cases z
      · rw [decide_eq_false h]
        refine decide_eq_false fun ⟨e1, e2⟩ => ?_
        obtain ⟨u, hu⟩ := Option.ne_none_iff_exists'.mp h
        obtain ⟨ou, pu⟩ := lw_okr ht0 u hu
        subst e1
        subst e2
        exact (jf_ne gA gB _ _).mp pu ((lA' u ou).trans (lB' u ou).symm)
    rw [eqd]
    refine ite_ndf rfl ?_
    obtain ⟨_, pm0, pg0, hp01, hp02, hp03⟩ := hm0.same s014
    obtain ⟨_, pm1, pg1, hp11, hp12, hp13⟩ := hm1.same s014
    obtain ⟨tm0, vm0, hv0, hvl0⟩ := hp02.len
    obtain ⟨tm1, vm1, hv1, hvl1⟩ := hp12.len
    walk_at "go"
    refine i_lenQ hv0 ?_
    rw [hvl0]
    walk_at "go"
    refine i_lenQ hv1 ?_
    rw [hvl1]
    walk_at "go"
    have fin : ∀ H15, Same H14 H15 → tRet (tAndV (tOp rIsN (tCallS (sp_parted C r) (WE fun _ _ _ _ => False) (tCons (tOp (rIx K) (tVar 2) (tC (V.int 0))) (tCons (tOp (rIx K) (tVar 2) (tC (V.int 0))) tNil))) (tC V.non)) (tOp rIsN (tCallS (sp_outside C r) (WE fun _ _ _ _ => False) (tCons (tOp (rIx K) (tVar 2) (tC (V.int 1))) (tCons (tOp (rIx K) (tVar 2) (tC (V.int 1))) tNil))) (tC V.non))) { nx := fun _ H' => Q .non H', rt := Q } [some (.str (SX.S al)), some (.ref pP), some (.ref pR), some (.ref Ld), some (.ref Lt), x5] H15 := fun H15 s15 => by
      have s015 := s014.trans s15
      have hR15 := s015 _ _ hR
      walk_at "go"
      refine ⟨fun _ => False, r0, r0, al, A, gA, al, A, gA, rfl, hr0.same s015, hr0.same s015, ha, hwA, hwA, fun _ x H16 hx _ s16 => ?_, fun z => absurd rfl z⟩
      have ex : x = none := least_no hx fun u _ hu => (jf_ne gA gA _ _).mp hu Iff.rfl
      subst ex
      have s016 := s015.trans s16
      have hR16 := s016 _ _ hR
      walk_at "go"
      refine ite_dt rfl ?_
      walk_at "go"
      refine ⟨fun _ => False, r1, r1, al, B, gB, al, B, gB, rfl, hr1.same s016, hr1.same s016, ha, hwB, hwB, fun _ y H17 hy _ s17 => ?_, fun z => absurd rfl z⟩
      have ey : y = none := least_no hy fun u _ hu => (jf_ne gB gB (run B 0 u) (run B 0 u)).mp ((jf_one gB gB _ _).mpr (.inl hu)) Iff.rfl
      subst ey
      walk_at "go"
      exact k H17 (s016.trans s17)
    refine iteD (fun hx => ?_) (fun hx => ?_)
    · walk_at "go"
      have h60 : A.length * B.length ≤ 60 := by
        have : (A.length : Int) * (B.length : Int) ≤ 60 := hx
        rw [← Int.natCast_mul] at this
        omega
      refine ⟨fun _ => False, r0, r1, Lt, al, A, gA, B, gB, t3, t1, t2, rfl, hr0.same s014, hr1.same s014, ha, hwA, hwB, h60, hT14, ht1, ht2, fun H15 s15 => ?_⟩
      refine ⟨true, rfl, ?_⟩
      exact fin H15 s15
    · exact fin H14 (.refl _)
end
abbrev s_law : Stmt := top 80
theorem sc_law : FnScope ["script", "source", "second", "third", "alphabet", "plains", "readers", "k", "due", "told", "letters", "stranger", "plain", "row"] ["script"] (fnScope s_law) := ⟨rfl, rfl, rfl, by decide +kernel, rfl, by decide +kernel, by decide +kernel⟩
theorem paired3 {α β : Type} {F : α → β → Prop} {xs : List α} {a b c : β} (h : Paired F xs [a, b, c]) : ∃ x y z, xs = [x, y, z] ∧ F x a ∧ F y b ∧ F z c := by
  cases h with
  | cons h1 t => cases t with
    | cons h2 t => cases t with
      | cons h3 t => cases t with
        | nil => exact ⟨_, _, _, rfl, h1, h2, h3⟩
theorem i_eqTOs {al : List Nat} {res : Option (List Nat)} {H : Hp} {Q : VK} (q : Q (.bl true) H) : rEq (txtO al res) (txtO al res) H Q := by
  cases res with
  | none => exact ⟨rfl, by rw [decide_eq_true rfl]; exact q⟩
  | some u => exact ⟨rfl, by rw [decide_eq_true rfl]; exact q⟩
theorem ok1 (a : Nat) (h : 97 ≤ a ∧ a ≤ 122) : AlOk [a] := ⟨by show 1 ≤ 1; decide, by show 1 ≤ 3; decide, fun c hc => by rw [List.mem_singleton.mp hc]; exact h, by simp⟩
/-- letters of others -/
theorem strange_l : ∀ al ∈ alMenu, ∃ nl fl : List Nat, atI ([.str "z", .str "bc", .str "abd"] : List V) ((al.length : Int) - 1) = some (.str (SX.S nl)) ∧ atI ([.str "cd", .str "x", .str "mn"] : List V) ((al.length : Int) - 1) = some (.str (SX.S fl)) ∧ AlOk nl ∧ AlOk fl ∧ al ≠ nl ∧ al ≠ fl := by
  have k1 : AlOk [122] := ok1 _ (by decide)
  have k2 : AlOk [98, 99] := ⟨by decide, by decide, by decide, by decide⟩
  have k3 : AlOk [97, 98, 100] := ⟨by decide, by decide, by decide, by decide⟩
  have k4 : AlOk [99, 100] := ⟨by decide, by decide, by decide, by decide⟩
  have k5 : AlOk [120] := ok1 _ (by decide)
  have k6 : AlOk [109, 110] := ⟨by decide, by decide, by decide, by decide⟩
  intro al h
  simp only [alMenu, List.mem_cons, List.not_mem_nil, or_false] at h
  rcases h with h | h | h | h | h | h | h <;> subst h
  · exact ⟨[98, 99], [120], rfl, rfl, k2, k5, by decide, by decide⟩
  · exact ⟨[98, 99], [120], rfl, rfl, k2, k5, by decide, by decide⟩
  · exact ⟨[97, 98, 100], [109, 110], rfl, rfl, k3, k6, by decide, by decide⟩
  · exact ⟨[122], [99, 100], rfl, rfl, k1, k4, by decide, by decide⟩
  · exact ⟨[97, 98, 100], [109, 110], rfl, rfl, k3, k6, by decide, by decide⟩
  · exact ⟨[98, 99], [120], rfl, rfl, k2, k5, by decide, by decide⟩
  · exact ⟨[122], [99, 100], rfl, rfl, k1, k4, by decide, by decide⟩
theorem unlikeW_ok : ∀ z ∈ unlikeW, PyData.strOk z = true := by decide +kernel
theorem i_neLL {K : PySem.W.Frag} {H : Hp} {Q : VK} {l m x y d : Addr} (hl : H l = some (.lst [.ref x, .ref y])) (hx : H x = some (.lst (unlikeW.map V.str))) (hy : H y = some (.lst (unlikeW.map V.str))) (hm : H m = some (.lst [.ref d, .ref d])) (hd : H d = some (.lst (unlikeW.map V.str))) (q : Q (.bl false) H) : rNeD K (.ref l) (.ref m) H Q := by
  have h1 := lay_strs unlikeW unlikeW_ok
  have e : PyData.eqv (.list [dStrsL unlikeW, dStrsL unlikeW]) (.list [dStrsL unlikeW, dStrsL unlikeW]) = true := by
    simp [dStrsL, PyData.eqv, PyData.eqvAll, eqvAll_strs]
  have sh : SeqAt.shaped (.list [dStrsL unlikeW, dStrsL unlikeW]) = true := by
    unfold SeqAt.shaped
    simp [dStrsL, PyData.canLay0, PyData.canLayAll0, PyData.depth, PyData.depthAll, h1.1, h1.2]
  exact ⟨.list [dStrsL unlikeW, dStrsL unlikeW], .list [dStrsL unlikeW, dStrsL unlikeW], .lst (SqL.of hl) (.cons (.lst (SqL.of hx) (dp_strs _)) (.cons (.lst (SqL.of hy) (dp_strs _)) .nil)), .lst (SqL.of hm) (.cons (.lst (SqL.of hd) (dp_strs _)) (.cons (.lst (SqL.of hd) (dp_strs _)) .nil)), sh, sh, by rw [e]; exact q⟩
def sp_law (K : PySem.W.Frag) : Sp := fun vs H Q _ => ∃ (a : Addr) (ns : List Int), vs = [.ref a] ∧ SqL K H a (ns.map V.int) ∧ ns.length ≤ 63 ∧ (∀ n ∈ ns, n.natAbs < 2 ^ 1048576) ∧ ∀ H', Q (.bl true) H'
section
variable {P : Program} {w : World} {K : PySem.W.Frag} {mg : Str → Option Value} {base : Heap} {C : Addr} {r : Er}
set_option maxHeartbeats 4000000 in
theorem ok_law {f : Addr} {fd : FuncData} (F : C8.Fun K "law" "law" s_law f fd) (T : Txt K mg C r) (c_law_source : Cal P w K mg base 1 "_law_source" (sp_law_source K) []) (c_law_alphabet : Cal P w K mg base 2 "_law_alphabet" sp_law_alphabet []) (c_law_both : Cal P w K mg base 3 "_law_both" sp_law_both []) (c_law_finite : Cal P w K mg base 2 "_law_finite" sp_law_finite []) (c_law_right : Cal P w K mg base 10 "_law_right" (sp_law_right C r) []) (c_law_longest : Cal P w K mg base 1 "_law_longest" sp_law_longest []) (c_longest_of : Cal P w K mg base 3 "longest_of" (sp_longest_of C) []) (c_law_is_number : Cal P w K mg base 1 "_law_is_number" sp_law_is_number []) (c_law_refused : Cal P w K mg base 7 "_law_refused" (sp_law_refused C r) []) (c_law_stays : Cal P w K mg base 3 "_law_stays" (sp_law_stays C) []) (c_law_pick : Cal P w K mg base 1 "_law_pick" sp_law_pick []) (c_parted : CalX P w K mg base 6 "parted" (sp_parted C r)) (c_law_due : Cal P w K mg base 2 "_law_due" sp_law_due []) (c_outside : CalX P w K mg base 6 "outside" (sp_outside C r)) (m_Reader : Mak P w K mg base 3 "Reader" C (sp_Readerd_initd C) []) (s_bare : StM P w K mg base 5 "Reader" C "bare" (sp_Reader_bare C)) : FnOk P w K mg base C8.CX0 11 f fd ["script"] (sp_law K) := by
  refine fn0 F sc_law (fun vs H Q E h => ?_) (fun cdv A outer s H vs Q E hr h => ?_)
  · obtain ⟨_, _, rfl, _⟩ := h
    rfl
  · obtain ⟨a, ns, rfl, ha, hl, hb, k⟩ := h
    refine ⟨_, (pss_cons (ps_set (i := 1) sc_law.nd rfl (by first | exact Or.inl rfl | exact Or.inr rfl) (pe_c c_law_source hr (by decide) rfl (pa_cons (pv 0) (pa_cons pe_int pa_nil))))
        (pss_cons (ps_set (i := 2) sc_law.nd rfl (by first | exact Or.inl rfl | exact Or.inr rfl) (pe_c c_law_source hr (by decide) rfl (pa_cons (pv 0) (pa_cons pe_int pa_nil))))
        (pss_cons (ps_set (i := 3) sc_law.nd rfl (by first | exact Or.inl rfl | exact Or.inr rfl) (pe_c c_law_source hr (by decide) rfl (pa_cons (pv 0) (pa_cons pe_int pa_nil))))
        (pss_cons (ps_set (i := 4) sc_law.nd rfl (by first | exact Or.inl rfl | exact Or.inr rfl) (pe_c c_law_alphabet hr (by decide) rfl (pa_cons (pv 1) pa_nil)))
        (pss_cons (ps_set (i := 5) sc_law.nd rfl (by first | exact Or.inl rfl | exact Or.inr rfl) (pe_op op_cat (pe_c c_law_both hr (by decide) rfl (pa_cons (pv 1) (pa_cons (pv 2) (pa_cons (pv 4) pa_nil)))) (pe_lst (pa_cons (pe_c c_law_finite hr (by decide) rfl (pa_cons (pv 3) (pa_cons (pe_callB (lenK K rfl) (by rfl) T.b_len (by decide +kernel) (pa_cons (pv 4) pa_nil)) pa_nil))) pa_nil))))
        (C8.pss_cut (ps_setLc (i := 6) (own := [("plain", 12)]) rfl sc_law.nd rfl rfl (sw_true rfl rfl rfl (by decide +kernel)) (seqK K rfl (pv 5)) (blkOk_by (by kernel_rfl)) (fun _ _ _ _ _ => (pg_name (i := 12) sc_law.nd rfl (by first | exact Or.inl rfl | exact Or.inr rfl))) (fun _ _ _ _ _ => pts_nil) (fun _ _ _ _ _ => (pe_mk m_Reader hr (by decide) rfl (pa_cons (pv 4) (pa_cons (pe_lc (own := [("row", 13)]) rfl sc_law.nd (seqK K rfl (pe_ix (ixK K rfl) (pv 12) pe_int (fun _ _ => rfl))) (blkOk_by (by kernel_rfl)) (fun _ _ _ _ _ => (pg_name (i := 13) sc_law.nd rfl (by first | exact Or.inl rfl | exact Or.inr rfl))) (fun _ _ _ _ _ => pts_nil) (fun _ _ _ _ _ => (pe_callTy (listK K rfl) (by rfl) T.b_list (by decide +kernel) (pa_cons (pv 13) pa_nil)))) (pa_cons (pe_callTy (listK K rfl) (by rfl) T.b_list (by decide +kernel) (pa_cons (pe_ix (ixK K rfl) (pv 12) pe_int (fun _ _ => rfl)) pa_nil)) pa_nil))))))
        (pss_cons (ps_if (pt_not (pt_val (pe_c c_law_right hr (by decide) rfl (pa_cons (pv 4) (pa_cons (pv 5) (pa_cons (pv 6) pa_nil)))))) (pss_one (ps_ret pe_bl)) pss_nil)
        (pss_cons (ps_for PassesOwn.never rfl (pi_range1 (by rfl) T.b_range (pa_cons pe_int pa_nil)) (pg_name (i := 7) sc_law.nd rfl (by first | exact Or.inl rfl | exact Or.inr rfl))
        (pss_cons (ps_set (i := 8) sc_law.nd rfl (by first | exact Or.inl rfl | exact Or.inr rfl) (pe_c c_law_longest hr (by decide) rfl (pa_cons (pe_ix (ixK K rfl) (pv 5) (pv 7) (fun _ _ => rfl)) pa_nil)))
        (pss_cons (ps_set (i := 9) sc_law.nd rfl (by first | exact Or.inl rfl | exact Or.inr rfl) (pe_c c_longest_of hr (by decide) rfl (pa_cons (pe_ix (ixK K rfl) (pv 6) (pv 7) (fun _ _ => rfl)) pa_nil)))
        (pss_one (ps_if (PW.pt (pw_or (PW.pt (pw_and (pt_cmpR op_isN1 (pv 8) pe_non (nomark _)) (pw_and1 (pt_cmpR op_notN1 (pv 9) pe_non (nomark _))))) (pw_or1 (PW.pt (pw_and (pt_cmpR op_notN1 (pv 8) pe_non (nomark _)) (pw_and1 (pt_not (pt_val (pe_c c_law_is_number hr (by decide) rfl (pa_cons (pv 9) (pa_cons (pv 8) (pa_cons (pv 8) pa_nil)))))))))))) (pss_one (ps_ret pe_bl)) pss_nil)))))
        (pss_cons (ps_for PassesOwn.never rfl (seqK K rfl (pe_lst (pa_cons (pe_ix (ixK K rfl) (pe_lst (pa_cons pe_str (pa_cons pe_str (pa_cons pe_str pa_nil)))) (pe_op op_sub (pe_callB (lenK K rfl) (by rfl) T.b_len (by decide +kernel) (pa_cons (pv 4) pa_nil)) pe_int) (fun _ _ => rfl)) (pa_cons (pe_ix (ixK K rfl) (pe_lst (pa_cons pe_str (pa_cons pe_str (pa_cons pe_str pa_nil)))) (pe_op op_sub (pe_callB (lenK K rfl) (by rfl) T.b_len (by decide +kernel) (pa_cons (pv 4) pa_nil)) pe_int) (fun _ _ => rfl)) pa_nil)))) (pg_name (i := 10) sc_law.nd rfl (by first | exact Or.inl rfl | exact Or.inr rfl))
        (pss_cons (ps_set (i := 11) sc_law.nd rfl (by first | exact Or.inl rfl | exact Or.inr rfl) (pe_stat s_bare hr (by decide) rfl (pa_cons (pv 10) pa_nil)))
        (pss_cons (ps_set (i := 8) sc_law.nd rfl (by first | exact Or.inl rfl | exact Or.inr rfl) (pe_lst (pa_cons pe_str (pa_cons pe_str pa_nil))))
        (pss_one (ps_if (PW.pt (pw_or (pt_cmpR (neDK K rfl hr.units) (pe_c c_law_refused hr (by decide) rfl (pa_cons (pe_ix (ixK K rfl) (pv 6) pe_int (fun _ _ => rfl)) (pa_cons (pv 11) pa_nil))) (pe_lst (pa_cons (pv 8) (pa_cons (pv 8) pa_nil))) (nomark _)) (pw_or1 (pt_cmpR (neDK K rfl hr.units) (pe_c c_law_refused hr (by decide) rfl (pa_cons (pv 11) (pa_cons (pe_ix (ixK K rfl) (pv 6) pe_int (fun _ _ => rfl)) pa_nil))) (pe_lst (pa_cons (pv 8) (pa_cons (pv 8) pa_nil))) (nomark _))))) (pss_one (ps_ret pe_bl)) pss_nil)))))
        (pss_cons (ps_for PassesOwn.never rfl (pi_range1 (by rfl) T.b_range (pa_cons pe_int pa_nil)) (pg_name (i := 7) sc_law.nd rfl (by first | exact Or.inl rfl | exact Or.inr rfl))
        (pss_one (ps_if (pt_not (pt_val (pe_c c_law_stays hr (by decide) rfl (pa_cons (pv 4) (pa_cons (pe_ix (ixK K rfl) (pv 5) (pv 7) (fun _ _ => rfl)) (pa_cons (pe_ix (ixK K rfl) (pv 6) (pv 7) (fun _ _ => rfl)) pa_nil)))))) (pss_one (ps_ret pe_bl)) pss_nil)))
        (pss_cons (ps_set (i := 7) sc_law.nd rfl (by first | exact Or.inl rfl | exact Or.inr rfl) (pe_c c_law_pick hr (by decide) rfl (pa_cons (pv 3) (pa_cons pe_int pa_nil))))
        (pss_cons (ps_if (pt_cmpR op_ne (pe_cX c_parted hr (by decide) takes0 rfl (pa_cons (pe_ix (ixK K rfl) (pv 6) (pv 7) (fun _ _ => rfl)) (pa_cons (pe_ix (ixK K rfl) (pv 6) pe_int (fun _ _ => rfl)) pa_nil))) (pe_c c_law_due hr (by decide) rfl (pa_cons (pv 4) (pa_cons (pe_ix (ixK K rfl) (pv 5) (pv 7) (fun _ _ => rfl)) (pa_cons (pe_ix (ixK K rfl) (pv 5) pe_int (fun _ _ => rfl)) (pa_cons pe_str pa_nil))))) (nomark _)) (pss_one (ps_ret pe_bl)) pss_nil)
        (pss_one (ps_ret (pe_cmpR op_eq (pe_cX c_outside hr (by decide) takes0 rfl (pa_cons (pe_ix (ixK K rfl) (pv 6) pe_int (fun _ _ => rfl)) (pa_cons (pe_ix (ixK K rfl) (pv 6) pe_int (fun _ _ => rfl)) pa_nil))) (pe_c c_law_due hr (by decide) rfl (pa_cons (pv 4) (pa_cons (pe_ix (ixK K rfl) (pv 5) pe_int (fun _ _ => rfl)) (pa_cons (pe_ix (ixK K rfl) (pv 5) pe_int (fun _ _ => rfl)) (pa_cons pe_str pa_nil))))) (nomark _)))))))))))))))), ?_⟩
    walk_at "go"
    refine ⟨a, ns, 0, rfl, ha, hl, by decide, hb, fun s1 x1 y1 z1 H1 sm1 h10 h11 => ?_⟩
    walk_at "go"
    refine ⟨a, ns, 1, rfl, SqL.same ha sm1, hl, by decide, hb, fun s2 x2 y2 z2 H2 sm2 h20 h21 => ?_⟩
    walk_at "go"
    refine ⟨a, ns, 2, rfl, SqL.same (SqL.same ha sm1) sm2, hl, by decide, hb, fun s3 x3 y3 z3 H3 sm3 h30 h31 => ?_⟩
    walk_at "go"
    generalize hSdef : (fun b : Addr => b = s1 ∨ b = s2 ∨ b = s3) = S
    have iS1 : S s1 := by rw [← hSdef]; exact .inl rfl
    have iS2 : S s2 := by rw [← hSdef]; exact .inr (.inl rfl)
    have iS3 : S s3 := by rw [← hSdef]; exact .inr (.inr rfl)
    have hS3 : Srcs S H3 := fun b hb => by
      rw [← hSdef] at hb
      rcases hb with e | e | e
      · rw [e]; exact ⟨x1, y1, z1, sm3 _ _ (sm2 _ _ h11)⟩
      · rw [e]; exact ⟨x2, y2, z2, sm3 _ _ h21⟩
      · rw [e]; exact ⟨x3, y3, z3, h31⟩
    refine ⟨S, s1, rfl, iS1, hS3, fun al H4 hmen hal e4 => ?_⟩
    walk_at "go"
    have hal1 := hal.pos
    have hal3 := hal.le
    have hla : (SX.S al).length = al.length := SX.S_len al
    refine ⟨S, s1, s2, al, rfl, iS1, iS2, e4.src, hal, fun P2 p0 p1 A0 g0 A1 g1 H5 e5 hP2S hP25 hm0 hm1 => ?_⟩
    walk_at "go"
    refine i_lenS (szl (by omega)) ?_
    rw [hla]
    walk_at "go"
    refine ⟨S, s3, al.length, rfl, iS3, e5.src, hal1, hal3, fun p2 A2 g2 H6 e6 hm2 => ?_⟩
    walk_at "go"
    refine ⟨sz1, fun P1 hP1 => ?_⟩
    have e7 := Ev.laid (o := .lst [.ref p2]) e6.src hP1
    refine i_cat (e7.at hP2S (e6.at hP2S hP25)) upd_same (by show 3 ≤ 16777216; decide) fun PL hPLn => ?_
    have e8 := Ev.laid (o := .lst ([.ref p0, .ref p1] ++ [.ref p2])) e7.src hPLn
    have e69 := e6.trans (e7.trans e8)
    have hm0 := hm0.ev e69
    have hm1 := hm1.ev e69
    have hm2 := hm2.ev (e7.trans e8)
    have hPS : ¬ S PL := e7.src.notin hPLn
    have hPL9 : (upd (upd H6 P1 (.lst [.ref p2])) PL (.lst ([.ref p0, .ref p1] ++ [.ref p2]))) PL = some (.lst ([p0, p1, p2].map V.ref)) := upd_same
    have hS9 := e8.src
    generalize (upd (upd H6 P1 (.lst [.ref p2])) PL (.lst ([.ref p0, .ref p1] ++ [.ref p2]))) = H9 at *
    walk_at "go"
    have hP9 : Paired (fun a (x : Rws × List Nat) => Mach S H9 a x.1 x.2) [p0, p1, p2] [(A0, g0), (A1, g1), (A2, g2)] := .cons hm0.1 (.cons hm1.1 (.cons hm2.1 .nil))
    have hok : ∀ x ∈ [(A0, g0), (A1, g1), (A2, g2)], WF al.length x.1 ∧ GOK x.1.length x.2 := fun x hx => by
      rcases List.mem_cons.mp hx with e | hx
      · rw [e]; exact hm0.2
      · rcases List.mem_cons.mp hx with e | hx
        · rw [e]; exact hm1.2
        · rw [List.mem_singleton.mp hx]; exact hm2.2
    have hpl3 : [(A0, g0), (A1, g1), (A2, g2)].length = 3 := rfl
    show C8.tCut _ _ _ _ _
    refine i_cut (fun σ H' => ∃ (RL : Addr) (rds : List Addr), σ = [some (.ref a), some (.ref s1), some (.ref s2), some (.ref s3), some (.str (SX.S al)), some (.ref PL), some (.ref RL), none, none, none, none, none, none, none] ∧ Ev S H9 H' ∧ H' RL = some (.lst (rds.map V.ref)) ∧ ¬ S RL ∧ Paired (fun a (x : Rws × List Nat) => Rd C S H' a al x.1 x.2) rds [(A0, g0), (A1, g1), (A2, g2)]) ?_ (fun σ H' hq => ?_)
    · generalize hpls : [(A0, g0), (A1, g1), (A2, g2)] = pls at *
      generalize hpad : [p0, p1, p2] = pad at *
      walk_at "go"
      refine seq_lc (t := false) hPL9 (fun D hD => ⟨fun q H' => Ev S H9 H' ∧ ∃ rds, H' D = some (.lst (rds.map V.ref)) ∧ Paired (fun a (x : Rws × List Nat) => Rd C S H' a al x.1 x.2) rds (pls.take q), ⟨.laid hS9 hD, [], upd_same, by rw [List.take_zero]; exact .nil⟩, fun q H' _ ⟨e, _⟩ => e.at hPS hPL9, fun q v H' hv hq => ?_, fun H' hq => ?_⟩)
      · obtain ⟨e10, rds, hD10, hrds⟩ := hq
        obtain ⟨pa, hpa, rfl⟩ := at_map hv
        obtain ⟨⟨A, g⟩, hx, hma⟩ := Paired.at0 hP9 hpa
        obtain ⟨hwA, hgA⟩ := hok _ (List.mem_of_getElem? hx)
        have hS10 := e10.src
        have hq3 : q < 3 := by
          have := (List.getElem?_eq_some_iff.mp hx).1
          omega
        have hrl : rds.length ≤ 3 := by
          rw [hrds.length, List.length_take]
          omega
        obtain ⟨hpS, pm, pg, hp1, hp2, hp3⟩ := hma.ev e10
        obtain ⟨hmS, tm, as, hm1', hmP⟩ := id hp2
        obtain ⟨hgS, tg, hg1'⟩ := id hp3
        have hDS : ¬ S D := hS9.notin hD
        have hleA := hwA.le
        walk_at "go"
        refine seq_lc hm1' (fun E hE => ⟨fun j H3 => Same H' H3 ∧ ∃ bs, H3 E = some (.lst (bs.map V.ref)) ∧ Paired (fun a r => H' a = none ∧ a ≠ E ∧ H3 a = some (.lst (r.map vn))) bs (A.take j), ⟨same_laid hE, [], upd_same, by rw [List.take_zero]; exact .nil⟩, fun j H3 _ ⟨e, _⟩ => e _ _ hm1', fun j v H3 hvj hq => ?_, fun H3 hq => ?_⟩)
        · obtain ⟨s3', bs, hE3, hbs⟩ := hq
          obtain ⟨b, hvb, rfl⟩ := at_map hvj
          obtain ⟨rw', hrw, hia1, ti, hia2⟩ := Paired.at0 hmP hvb
          have hj := (List.getElem?_eq_some_iff.mp hrw).1
          walk_at "go"
          refine i_listOf (s3' _ _ hia2) (fun l hl => ?_)
          have hlE : l ≠ E := (ne_of_none hE3 hl).symm
          refine ⟨bs.map V.ref, by rw [upd_ne hlE.symm]; exact hE3, szlt (by rw [List.length_map, hbs.length, List.length_take]; omega), Same.put (s3'.trans (same_laid hl)) hE, bs ++ [l], by rw [upd_same, List.map_append]; rfl, ?_⟩
          rw [take_at hrw]
          refine U.Paired.snoc (Paired.mapP hbs fun b r z => ⟨z.1, z.2.1, ?_⟩) ⟨same_free s3' hl, hlE, by rw [upd_ne hlE, upd_same]⟩
          rw [upd_ne z.2.1, upd_ne (ne_of_none z.2.2 hl)]
          exact z.2.2
        · obtain ⟨s3', bs, hE3, hbs⟩ := hq
          rw [show (List.map V.ref as).length = A.length by rw [List.length_map, hmP.length], List.take_length] at hbs
          have hES : ¬ S E := hS10.notin hE
          walk_at "go"
          refine i_ixT (s3' _ _ hp1) (i := 1) (v := .ref pg) rfl ?_
          walk_at "go"
          refine i_listOf (s3' _ _ hg1') (fun G hG => ?_)
          walk_at "go"
          intro x dx hx0 hdx hne
          have s4 : Same H3 (upd H3 G (.lst (g.map vn))) := same_laid hG
          have s5 : Same (upd H3 G (.lst (g.map vn))) (upd (upd (upd H3 G (.lst (g.map vn))) dx (.own x)) x (.ins C dx [])) := (same_laid hdx).trans (same_laid (by rw [upd_ne hne.symm]; exact hx0))
          have s05 := (s3'.trans s4).trans s5
          have e11 : Ev S H' (upd (upd (upd H3 G (.lst (g.map vn))) dx (.own x)) x (.ins C dx [])) := .of_same hS10 s05
          have hxH : H' x = none := same_free (s3'.trans s4) hx0
          have hxS : ¬ S x := hS10.notin hxH
          have hGS : ¬ S G := hS10.notin (same_free s3' hG)
          refine ⟨S, x, dx, al, E, A, G, g, rfl, e11.src.to, upd_same, hal, ⟨hES, false, bs, (s4.trans s5) _ _ hE3, Paired.mapP hbs fun b r z => ⟨hS10.notin z.1, false, (s4.trans s5) _ _ z.2.2⟩⟩, ⟨hGS, false, s5 _ _ upd_same⟩, hwA, hgA, fun H6 qm qg kk h1 h2 h3 => ⟨rfl, ?_⟩⟩
          have s6 := made_same hx0 hdx kk
          have s06 := (s3'.trans s4).trans s6
          have hD6 := s06 _ _ hD10
          have hn1 : ∀ vs, H6 D ≠ some (.tup vs) := by
            intro vs
            rw [hD6]
            intro z
            cases z
          have hn2 : ∀ C dx fs, H6 D ≠ some (.ins C dx fs) := by
            intro C dx fs
            rw [hD6]
            intro z
            cases z
          refine ⟨_, hD6, szlt (by rw [List.length_map]; omega), Ev.put hS9 (e10.trans (.of_same hS10 s06)) hD, rds ++ [x], by rw [upd_same, List.map_append]; rfl, ?_⟩
          rw [take_at hx]
          have hRx : Rd C S H6 x al A g := ⟨hxS, dx, qm, qg, h1, h2, h3⟩
          exact U.Paired.snoc (Paired.mapP hrds fun b r z => (z.same s06).upd hn1 hn2) (hRx.upd hn1 hn2)
      · obtain ⟨e10, rds, hD10, hrds⟩ := hq
        have e : pls.take (List.map V.ref pad).length = pls := by
          rw [List.length_map, hP9.length, List.take_length]
        rw [e] at hrds
        walk_at "go"
        exact ⟨D, rds, rfl, e10, hD10, hS9.notin hD, hrds⟩
    obtain ⟨RL, rds, rfl, e10, hRL10, hRLS, hrds⟩ := hq
    have hS10 := e10.src
    obtain ⟨r0, r1, r2, rfl, hr0, hr1, hr2⟩ := paired3 hrds
    have hm0 := hm0.ev e10
    have hm1 := hm1.ev e10
    have hm2 := hm2.ev e10
    have hPL : H' PL = some (.lst [.ref p0, .ref p1, .ref p2]) := e10.at hPS hPL9
    have hRL : H' RL = some (.lst [.ref r0, .ref r1, .ref r2]) := hRL10
    clear hrds hP9 hok hpl3 hPL9 hRL10
    have at3 : ∀ n : Nat, n < 3 → ∃ (pa ra : Addr) (A : Rws) (g : List Nat), atI ([.ref p0, .ref p1, .ref p2] : List V) (n : Int) = some (.ref pa) ∧ atI ([.ref r0, .ref r1, .ref r2] : List V) (n : Int) = some (.ref ra) ∧ MG S al.length H' pa A g ∧ Rd C S H' ra al A g := fun n hn => by
      have : n = 0 ∨ n = 1 ∨ n = 2 := by omega
      rcases this with rfl | rfl | rfl
      · exact ⟨p0, r0, A0, g0, rfl, rfl, hm0, hr0⟩
      · exact ⟨p1, r1, A1, g1, rfl, rfl, hm1, hr1⟩
      · exact ⟨p2, r2, A2, g2, rfl, rfl, hm2, hr2⟩
    walk_at "go"
    refine ⟨al, PL, RL, p0, p1, p2, r0, r1, r2, A0, g0, A1, g1, rfl, hPL, hRL, hm0.1.weak fun _ z => z.elim, hm1.1.weak fun _ z => z.elim, hr0.weak fun _ z => z.elim, hr1.weak fun _ z => z.elim, hal, hm0.2.1, hm1.2.1, fun H11 s11 => ?_⟩
    walk_at "go"
    refine ⟨by decide, by decide, ?_⟩
    refine rng0_for (n := 3) (fun i σ H5 => ∃ x7 x8 x9, σ = [some (.ref a), some (.ref s1), some (.ref s2), some (.ref s3), some (.str (SX.S al)), some (.ref PL), some (.ref RL), x7, x8, x9, none, none, none, none] ∧ Same H' H5) ⟨_, _, _, rfl, s11⟩ (fun i σ H5 hi hq => ?_) (fun σ H5 hq => ?_)
    · obtain ⟨x7, x8, x9, rfl, s5⟩ := hq
      obtain ⟨pa, ra, A, g, ia, ja, hma, hra⟩ := at3 i hi
      have hPL5 := s5 _ _ hPL
      walk_at "go"
      refine i_ixL hPL5 ia ?_
      walk_at "go"
      refine ⟨S, pa, A, g, al.length, rfl, hma.1.same s5, hma.2.1, fun res H6 s6 hL => ?_⟩
      have s56 := s5.trans s6
      have hRL6 := s56 _ _ hRL
      walk_at "go"
      refine i_ixL hRL6 ja ?_
      walk_at "go"
      refine ⟨S, ra, al, A, g, rfl, hra.same s56, hma.2.1, fun res' H7 s7 hL' => ?_⟩
      have e : res' = res := hL'.uniq hL
      subst e
      have s57 := s56.trans s7
      walk_at "go"
      cases res' with
      | none =>
        refine ite_dt rfl ?_
        walk_at "go"
        refine ite_ndf rfl ?_
        walk_at "go"
        refine ite_ndf rfl ?_
        walk_at "go"
        exact ⟨_, _, _, rfl, s57⟩
      | some L =>
        refine ite_df (by intro z; cases z) ?_
        walk_at "go"
        refine ite_ndt (by intro z; cases z) ?_
        walk_at "go"
        refine ⟨L, L, L, rfl, Int.le_refl _, Int.le_refl _, ?_⟩
        walk_at "go"
        exact ⟨_, _, _, rfl, s57⟩
    obtain ⟨x7, x8, x9, rfl, s5⟩ := hq
    clear s11
    obtain ⟨nl, fl, n1, n2, ok1, ok2, ne1, ne2⟩ := strange_l al hmen
    walk_at "go"
    refine ⟨sz3, fun m1 hm1' => ?_⟩
    have s6 := s5.trans (same_laid (o := .lst [.str "z", .str "bc", .str "abd"]) hm1')
    walk_at "go"
    refine i_lenS (szl (by omega)) ?_
    rw [hla]
    walk_at "go"
    refine i_ixL upd_same n1 ?_
    walk_at "go"
    refine ⟨sz3, fun m2 hm2' => ?_⟩
    have s7 := s6.trans (same_laid (o := .lst [.str "cd", .str "x", .str "mn"]) hm2')
    walk_at "go"
    refine i_lenS (szl (by omega)) ?_
    rw [hla]
    walk_at "go"
    refine i_ixL upd_same n2 ?_
    walk_at "go"
    refine ⟨sz2, fun L hL => ?_⟩
    have s8 := s7.trans (same_laid (o := .lst [.str (SX.S nl), .str (SX.S fl)]) hL)
    have hL8 : (upd (upd (upd H5 m1 (.lst [.str "z", .str "bc", .str "abd"])) m2 (.lst [.str "cd", .str "x", .str "mn"])) L (.lst [.str (SX.S nl), .str (SX.S fl)])) L = some (.lst [.str (SX.S nl), .str (SX.S fl)]) := upd_same
    generalize (upd (upd (upd H5 m1 (.lst [.str "z", .str "bc", .str "abd"])) m2 (.lst [.str "cd", .str "x", .str "mn"])) L (.lst [.str (SX.S nl), .str (SX.S fl)])) = H8 at *
    have hlet : ∀ (i : Nat) (v : V), ([V.str (SX.S nl), V.str (SX.S fl)] : List V)[i]? = some v → ∃ bl, v = .str (SX.S bl) ∧ AlOk bl ∧ al ≠ bl := fun i v h => by
      have hi := (List.getElem?_eq_some_iff.mp h).1
      have hi : i = 0 ∨ i = 1 := by simp at hi; omega
      rcases hi with rfl | rfl
      · cases h; exact ⟨nl, rfl, ok1, ne1⟩
      · cases h; exact ⟨fl, rfl, ok2, ne2⟩
    refine seq_for (t := false) hL8 (fun i σ H9 => ∃ x8 x10 x11, σ = [some (.ref a), some (.ref s1), some (.ref s2), some (.ref s3), some (.str (SX.S al)), some (.ref PL), some (.ref RL), x7, x8, x9, x10, x11, none, none] ∧ Same H8 H9) ⟨_, _, _, rfl, .refl _⟩ (fun i σ H9 _ ⟨_, _, _, _, s⟩ => s _ _ hL8) (fun i v σ H9 hv hq => ?_) (fun σ H9 hq => ?_)
    · obtain ⟨x8, x10, x11, rfl, s9⟩ := hq
      obtain ⟨bl, rfl, hbl, hne⟩ := hlet i v hv
      walk_at "go"
      refine ⟨bl, rfl, hbl, fun x H10 s10 _ hx => ?_⟩
      walk_at "go"
      refine ⟨sz2, fun d hd => ?_⟩
      have s811 := s9.trans (s10.trans (same_laid (o := .lst [.str "value", .str "unlike 'alphabet'"]) hd))
      have hd11 : (upd H10 d (.lst [.str "value", .str "unlike 'alphabet'"])) d = some (.lst (unlikeW.map V.str)) := upd_same
      have hx11 := hx.same (same_laid (o := .lst [.str "value", .str "unlike 'alphabet'"]) hd)
      generalize (upd H10 d (.lst [.str "value", .str "unlike 'alphabet'"])) = H11 at *
      have s011 := s8.trans s811
      have hRL11 := s011 _ _ hRL
      walk_at "go"
      refine ⟨fun _ => False, r0, x, al, A0, g0, bl, row0 bl.length, [], rfl, (hr0.same s011).weak fun _ z => z.elim, hx11.weak fun _ z => z.elim, hal, hm0.2.1, row0_wf hbl, hne, fun l y z H12 s12 hl12 hy hz => ?_⟩
      walk_at "go"
      refine ⟨sz2, fun m hm => ?_⟩
      have s13 : Same H12 (upd H12 m (.lst [.ref d, .ref d])) := same_laid hm
      refine i_neLL (s13 _ _ hl12) (s13 _ _ hy) (s13 _ _ hz) upd_same (s13 _ _ (s12 _ _ hd11)) ?_
      have s1113 := s12.trans s13
      have s013 := s011.trans s1113
      have hRL13 := s013 _ _ hRL
      have hd13 := s1113 _ _ hd11
      generalize (upd H12 m (.lst [.ref d, .ref d])) = H13 at *
      walk_at "go"
      refine ⟨fun _ => False, x, r2, bl, row0 bl.length, [], al, A2, g2, rfl, (hx11.same s1113).weak fun _ z => z.elim, (hr2.same s013).weak fun _ z => z.elim, hbl, row0_wf hbl, hm2.2.1, fun e => hne e.symm, fun l y z H14 s14 hl14 hy hz => ?_⟩
      walk_at "go"
      refine ⟨sz2, fun m hm => ?_⟩
      have s15 : Same H14 (upd H14 m (.lst [.ref d, .ref d])) := same_laid hm
      refine i_neLL (s15 _ _ hl14) (s15 _ _ hy) (s15 _ _ hz) upd_same (s15 _ _ (s14 _ _ hd13)) ?_
      walk_at "go"
      exact ⟨_, _, _, rfl, (s811.trans s1113).trans (s14.trans s15)⟩
    obtain ⟨x8, x10, x11, rfl, s9⟩ := hq
    have s09 := s8.trans s9
    walk_at "go"
    refine ⟨by decide, by decide, ?_⟩
    refine rng0_for (n := 3) (fun i σ H5 => ∃ x7, σ = [some (.ref a), some (.ref s1), some (.ref s2), some (.ref s3), some (.str (SX.S al)), some (.ref PL), some (.ref RL), x7, x8, x9, x10, x11, none, none] ∧ Same H' H5) ⟨_, rfl, s09⟩ (fun i σ H5 hi hq => ?_) (fun σ H5 hq => ?_)
    · obtain ⟨x7, rfl, s5⟩ := hq
      obtain ⟨pa, ra, A, g, ia, ja, hma, hra⟩ := at3 i hi
      have hPL5 := s5 _ _ hPL
      have hRL5 := s5 _ _ hRL
      walk_at "go"
      refine i_ixL hPL5 ia ?_
      walk_at "go"
      refine i_ixL hRL5 ja ?_
      walk_at "go"
      refine ⟨S, al, pa, ra, A, g, rfl, hma.1.same s5, hra.same s5, hal, hma.2.1, hma.2.2, fun H6 s6 => ?_⟩
      walk_at "go"
      exact ⟨_, rfl, s5.trans s6⟩
    obtain ⟨x7', rfl, s10⟩ := hq
    have e10' : Ev S H' H5 := .of_same hS10 s10
    clear s5 s6 s7 s8 s9 s09
    walk_at "go"
    refine ⟨S, s3, _, rfl, iS3, e10'.src, by decide, by decide, fun kk H12 n0 n1 e12 => ?_⟩
    obtain ⟨kk, rfl⟩ := Int.eq_ofNat_of_zero_le n0
    obtain ⟨pa, ra, A, g, ia, ja, hma, hra⟩ := at3 kk (by omega)
    have f12 := e10'.trans e12
    have hPL12 := f12.at hPS hPL
    have hRL12 := f12.at hRLS hRL
    have hone : (("one" : Str), [1, 2]) ∈ hW := by simp [hW]
    have hout : (("out" : Str), [1]) ∈ hW := by simp [hW]
    walk_at "go"
    refine i_ixL hRL12 ja ?_
    walk_at "go"
    refine ⟨S, ra, r2, al, A, g, al, A2, g2, rfl, hra.ev f12, hr2.ev f12, hal, hma.2.1, hm2.2.1, fun _ t0 H13 ht0 _ s13 => ?_, fun z => absurd rfl z⟩
    have f13 := f12.trans (.of_same f12.src s13)
    have hPL13 := f13.at hPS hPL
    walk_at "go"
    refine i_ixL hPL13 ia ?_
    walk_at "go"
    refine ⟨S, al, pa, p2, A, g, A2, g2, "one", [1, 2], rfl, hone, hma.1.ev f13, hm2.1.ev f13, hal, hma.2.1, hm2.2.1, fun d0 H14 s14 hd0 _ => ?_⟩
    have et : t0 = d0 := ht0.uniq hd0 fun u _ => Iff.rfl
    subst et
    refine i_neTO ?_
    have f14 := f13.trans (.of_same f13.src s14)
    have hRL14 := f14.at hRLS hRL
    walk_at "go"
    refine ⟨S, r0, r1, al, A0, g0, al, A1, g1, rfl, hr0.ev f14, hr1.ev f14, hal, hm0.2.1, hm1.2.1, fun _ t1 H15 ht1 _ s15 => ?_, fun z => absurd rfl z⟩
    have f15 := f14.trans (.of_same f14.src s15)
    have hPL15 := f15.at hPS hPL
    walk_at "go"
    refine ⟨S, al, p0, p1, A0, g0, A1, g1, "out", [1], rfl, hout, hm0.1.ev f15, hm1.1.ev f15, hal, hm0.2.1, hm1.2.1, fun d1 H16 s16 hd1 _ => ?_⟩
    have et : t1 = d1 := ht1.uniq hd1 fun u _ => Iff.rfl
    subst et
    exact i_eqTOs (k _)
end
set_option maxHeartbeats 8000000
open X7
/-- a def of the top -/
def DX (K : PySem.W.Frag) (mg : Str → Option Value) (x : Str) (st : Stmt) : Prop := ∃ (f : Addr) (fd : FuncData), C8.Def K mg x st f fd ∧ fd.defaults = .none
def MX (K : PySem.W.Frag) (C : Addr) (m qual : Str) (st : Stmt) : Prop := ∃ (f : Addr) (fd : FuncData), C8.Fun K m qual st f fd ∧ fd.defaults = .none ∧ OwnM K C m f
def IX (K : PySem.W.Frag) (C : Addr) (qual : Str) (st : Stmt) : Prop := ∃ (f : Addr) (fd : FuncData), C8.Fun K "__init__" qual st f fd ∧ fd.defaults = .none ∧ Mk K C f
section
variable {K : PySem.W.Frag} {mg : Str → Option Value} {h : Heap} {x m qual : Str} {st : Stmt} {f C : Addr} {oc kV dc pm cd ct : Value} {od an : Option Addr} {sl : Array (Option Value)}
theorem dx_mk (X : K.In h) (G : h.Ns mainGlobals mg) (a : PySem.W.nsIn K mainGlobals x = some (some (.ref f))) (l : K.lookup f = some ⟨oc, od, .func (PySem.W.fnOf x x (C8.fnArgs st) (C8.fnBody st) (C8.fnScope st) .none kV dc pm an cd ct), sl⟩)
    (c : PySem.W.codeIn K cd x = true) (k : PySem.W.keepIn K (.ref f) = true) : DX K mg x st := ⟨f, _, ⟨⟨oc, od, .none, kV, dc, pm, an, cd, ct, sl, rfl, l, c⟩, PySem.W.mg_of X G a, k⟩, rfl⟩
theorem mx_mk (a : PySem.W.findIn K (.ref C) m = some (some (.ref f))) (i : PySem.W.isFn K (.ref f) = true) (l : K.lookup f = some ⟨oc, od, .func (PySem.W.fnOf m qual (C8.fnArgs st) (C8.fnBody st) (C8.fnScope st) .none kV dc pm an cd ct), sl⟩)
    (c : PySem.W.codeIn K cd qual = true) : MX K C m qual st := ⟨f, _, ⟨oc, od, .none, kV, dc, pm, an, cd, ct, sl, rfl, l, c⟩, rfl, a, i⟩
def OX (K : PySem.W.Frag) (C : Addr) (nm m qual : Str) (st : Stmt) : Prop := ∃ (f : Addr) (fd : FuncData), C8.Fun K m qual st f fd ∧ fd.defaults = .none ∧ ∃ (c : ClassData) (r : List Value), PySem.W.clsIn K C = some c ∧ c.mro = .ref C :: r ∧ PySem.W.findIn K (.ref C) nm = some (some (.ref f)) ∧ PySem.W.isFn K (.ref f) = true
theorem ox_mk {nm : Str} {c' : ClassData} {r : List Value} (a : PySem.W.findIn K (.ref C) nm = some (some (.ref f))) (i : PySem.W.isFn K (.ref f) = true) (l : K.lookup f = some ⟨oc, od, .func (PySem.W.fnOf m qual (C8.fnArgs st) (C8.fnBody st) (C8.fnScope st) .none kV dc pm an cd ct), sl⟩)
    (c : PySem.W.codeIn K cd qual = true) (hc : PySem.W.clsIn K C = some c') (hm : c'.mro = .ref C :: r) : OX K C nm m qual st := ⟨f, _, ⟨oc, od, .none, kV, dc, pm, an, cd, ct, sl, rfl, l, c⟩, rfl, c', r, hc, hm, a, i⟩
def TX (K : PySem.W.Frag) (C : Addr) (m qual : Str) (st : Stmt) : Prop := ∃ (f : Addr) (fd : FuncData), C8.Fun K m qual st f fd ∧ fd.defaults = .none ∧ Meth K C m f
theorem tx_mk (a : PySem.W.findIn K (.ref C) m = some (some (.ref f))) (i : PySem.W.isFn K (.ref f) = true) (kp : PySem.W.keepIn K (.ref f) = true) (l : K.lookup f = some ⟨oc, od, .func (PySem.W.fnOf m qual (C8.fnArgs st) (C8.fnBody st) (C8.fnScope st) .none kV dc pm an cd ct), sl⟩)
    (c : PySem.W.codeIn K cd qual = true) : TX K C m qual st := ⟨f, _, ⟨oc, od, .none, kV, dc, pm, an, cd, ct, sl, rfl, l, c⟩, rfl, a, i, kp⟩
def StX (K : PySem.W.Frag) (C : Addr) (m qual : Str) (st : Stmt) : Prop := ∃ (f p : Addr) (fd : FuncData) (r : List Value), C8.Fun K m qual st f fd ∧ fd.defaults = .none ∧ PySem.W.keepIn K (.ref f) = true ∧ PySem.W.specialIn K (.ref C) "__getattribute__" = some (some (.builtin "type.__getattribute__")) ∧ PySem.W.typeIn K (.ref C) = some (.type "type") ∧
    PySem.W.readsIn K C (.type "type") = true ∧ PySem.W.findCls K (.ref C) (.type "type") m = some (.get (.builtin "staticmethod.__get__") (.ref p) .none (.ref C)) ∧ PySem.W.recIn K p "staticmethod" = some (.ref f :: r) ∧ PySem.W.handedIn (.ref f) = true
theorem st_mk {p : Addr} {r : List Value} (fc : PySem.W.findCls K (.ref C) (.type "type") m = some (.get (.builtin "staticmethod.__get__") (.ref p) .none (.ref C))) (rc : PySem.W.recIn K p "staticmethod" = some (.ref f :: r)) (l : K.lookup f = some ⟨oc, od, .func (PySem.W.fnOf m qual (C8.fnArgs st) (C8.fnBody st) (C8.fnScope st) .none kV dc pm an cd ct), sl⟩)
    (c : PySem.W.codeIn K cd qual = true) (kp : PySem.W.keepIn K (.ref f) = true) (sp : PySem.W.specialIn K (.ref C) "__getattribute__" = some (some (.builtin "type.__getattribute__"))) (ty : PySem.W.typeIn K (.ref C) = some (.type "type")) (rd : PySem.W.readsIn K C (.type "type") = true) (hd : PySem.W.handedIn (.ref f) = true) : StX K C m qual st :=
  ⟨f, p, _, r, ⟨oc, od, .none, kV, dc, pm, an, cd, ct, sl, rfl, l, c⟩, rfl, kp, sp, ty, rd, fc, rc, hd⟩
/-- an error's __init__, by its text alone -/
structure IniB (st : Stmt) (qual : Str) : Prop where
  sn : NdefX.NScope ["self", "what", "__class__"] ["self", "what"] ["__class__"] (C8.fnScope st)
  ks : (C8.fnScope st).names.lookup ("super" : Str) = some .globalImplicit
  bd : ∃ e : Expr, (∃ p0 p1 p2 p3 p4 q1 q2 q3 q4 : Pos, (p2.endLine == p3.line) = true ∧ C8.fnBody st = [.Expr (.Call (.Attribute (.Call (.Name "super" p0) [] [] p1) "__init__" p2) [e] [] p3) p4, .Assign [.Attribute (.Name "self" q1) "what" q2] (.Name "what" q3) q4]) ∧ ArgE e "what" FmtOk
  pr : ∃ ar : Arg, ((C8.fnArgs st).posonlyargs ++ (C8.fnArgs st).args).head? = some ar ∧ ar.arg = "self"
  bs : ∀ (kV dc pm ct : Value) (an : Option Addr) (cda cc : Addr) (us : List Value), us.length = 2 → bindArgs (iniFd st qual kV dc pm ct an cda cc) ⟨us, []⟩ = pure ((["self", "what"] : List Str).zip us)
def EX (P : Program) (K : PySem.W.Frag) (mg : Str → Option Value) (x : Str) (C : Addr) : Prop := ∀ (w : World) (base : Heap), MakE P w K mg base x C C "what" FmtOk
open PySem.HandSPX in
theorem ex_mk {P : Program} {fI cc cda : Addr} {ccl cl : Value} {cdd cld : Option Addr} {ccs csl : Array (Option Value)} {vs : Array Value} {file : Str} {tf : Tok} {nm q : Str} {N : Addr} {bs bm : List Value} {sn : List Str} {sub : List Value} {ab : Bool} {col : Option Bool} {dd : Option Addr} {k0 k1 k2 k3 k5 : Option Value} {c' : ClassData} (B : IniB st qual) (X : K.In h) (G : h.Ns mainGlobals mg)
    (aC : PySem.W.nsIn K mainGlobals x = some (some (.ref C))) (fi : PySem.W.findIn K (.ref C) "__init__" = some (some (.ref fI))) (tI : PySem.W.typeIn K (.ref fI) = some (.type "function"))
    (lk : K.lookup fI = some ⟨oc, od, .func (iniFd st qual kV dc pm ct an cda cc), sl⟩) (hcd : PySem.W.codeIn K (.ref cda) qual = true) (lc : K.lookup cda = some ⟨ccl, cdd, .fields vs, ccs⟩) (hvs : vs[2]? = some (.str file tf))
    (hfile : ((P.main.file : Str) == file) = true) (htop : (P.main.scope.names.lookup ("super" : Str)).isSome = false) (lcc : K.lookup cc = some ⟨cl, cld, .cell (some (.ref C)), csl⟩) (hsup : PySem.W.nsIn K mainGlobals "super" = some none)
    (ox : K.lookup C = some (excClassObj nm q C N bs bm true sn sub ab col dd k0 k1 k2 k3 k5 "ValueError.__new__")) (rv : PySem.HandSPX.refsVE bm = true) (sa : PySem.W.findIn K (.ref C) "__setattr__" = some (some (.builtin "object.__setattr__"))) (exC : PySem.W.subIn K (.ref C) (.type "BaseException") = some true)
    (tyC : PySem.W.typeIn K (.ref C) = some (.type "type")) (kC : PySem.W.keepIn K (.ref C) = true) (cD : PySem.W.clsIn K C = some c') (sb : PySem.W.mroIn K C (.ref C) = some true) (su : PySem.W.ks_superIn K C C "__init__" = some (some (.builtin "ValueError.__init__")))
    (sB : PySem.W.subIn K (.ref C) (.type "ValueError") = some true) (nf : PySem.W.findIn K (.ref C) "what" = some none) (op : PySem.W.nsIn K cStatics "thirdparty.any" = some none) : EX P K mg x C := fun w base => by
  obtain ⟨e, hbd, hE⟩ := B.bd
  exact ⟨⟨fI, _, _, ini_ok lk hcd lc hvs hfile htop lcc (PySem.W.mg_none_of X G hsup) B.sn B.ks hbd B.pr hE (by decide +kernel) (by decide +kernel), .all (B.bs _ _ _ _ _ _ _), fi, tI⟩, ⟨⟨⟨nm, q, N, bs, bm, sn, sub, ab, col, dd, k0, k1, k2, k3, k5, ox, rv⟩, sa, exC, tyC, kC⟩, ⟨_, cD⟩, sb, su, sB, nf, op⟩, PySem.W.mg_of X G aC⟩
theorem er_mk {l wt wi tm un nn E : Addr} {bT bU : Bool} (ex : PySem.W.exmOne K (.ref E) (.ref l) = some true) (hg : PySem.W.findIn K (.ref E) "__getattribute__" = some (some (.builtin "BaseException.__getattribute__"))) (hk : PySem.W.findIn K (.ref E) "__getattr__" = some none) (hs : PySem.W.subIn K (.ref E) (.type "BaseException") = some true)
    (hd : PySem.W.hasDictIn K E = true) (ha : PySem.W.findIn K (.ref E) "__class__" = some (some (.builtin "object.__class__"))) (hn : PySem.W.specialIn K (.builtin "object.__class__") "__get__" = some (some (.builtin "getset_descriptor.__get__"))) (ht : PySem.W.takesIn K (.builtin "object.__class__") = some true) (hm : PySem.W.mroIn K E (.type "object") = some true)
    (nw : PySem.W.findIn K (.ref E) "what" = some none) (kv : PySem.W.kitOne K (.ref E) (.type "ValueError") = some true) (kt : PySem.W.kitOne K (.ref E) (.ref tm) = some bT) (ku : PySem.W.kitOne K (.ref E) (.ref un) = some bU) (ko : bT = false → PySem.W.kitAny K (.ref E) [.ref nn, .ref tm, .ref wi, .ref wt] = some false) : ErF K ⟨l, wt, wi, tm, un, nn⟩ E bT bU :=
  ⟨ex, ⟨hg, hk, hs, hd, ha, hn, ht, hm⟩, ⟨hg, hk, hs, hd⟩, nw, kv, kt, ku, ko⟩
theorem ix_mk (mk : PySem.W.makesIn K C = true) (a : PySem.W.findIn K (.ref C) "__init__" = some (some (.ref f))) (i : PySem.W.isFn K (.ref f) = true) (kc : PySem.W.keepIn K (.ref C) = true) (l : K.lookup f = some ⟨oc, od, .func (PySem.W.fnOf "__init__" qual (C8.fnArgs st) (C8.fnBody st) (C8.fnScope st) .none kV dc pm an cd ct), sl⟩)
    (c : PySem.W.codeIn K cd qual = true) : IX K C qual st := ⟨f, _, ⟨oc, od, .none, kV, dc, pm, an, cd, ct, sl, rfl, l, c⟩, rfl, mk, a, i, kc⟩
def LX (K : PySem.W.Frag) (f : Addr) (st : Stmt) : Prop := ∃ fd : FuncData, C8.Fun K "law" "law" st f fd ∧ ∀ (s : Shared) (v : Value), BindsTo s fd ⟨[v], []⟩ [("script", v)]
theorem lx_mk (X : K.In h) (G : h.Ns mainGlobals mg) {fa : Addr} (hfa : mg "law" = some (.ref fa)) (a : PySem.W.nsIn K mainGlobals "law" = some (some (.ref f))) (l : K.lookup f = some ⟨oc, od, .func (PySem.W.fnOf "law" "law" (C8.fnArgs s_law) (C8.fnBody s_law) (C8.fnScope s_law) .none kV dc pm an cd ct), sl⟩)
    (c : PySem.W.codeIn K cd "law" = true) : LX K fa s_law := by
  have e := hfa.symm.trans (PySem.W.mg_of X G a)
  cases e
  exact ⟨_, ⟨oc, od, .none, kV, dc, pm, an, cd, ct, sl, rfl, l, c⟩, fun s v => .of_eq rfl⟩
end
theorem txt_mk {K : PySem.W.Frag} {mg : Str → Option Value} {h : Heap} {C l wt wi tm un nn : Addr} (X : K.In h) (G : h.Ns mainGlobals mg) (z_int : PySem.W.nsIn K mainGlobals "int" = some none) (z_len : PySem.W.nsIn K mainGlobals "len" = some none) (z_abs : PySem.W.nsIn K mainGlobals "abs" = some none) (z_range : PySem.W.nsIn K mainGlobals "range" = some none) (z_tuple : PySem.W.nsIn K mainGlobals "tuple" = some none) (z_list : PySem.W.nsIn K mainGlobals "list" = some none) (z_isinstance : PySem.W.nsIn K mainGlobals "isinstance" = some none) (z_all : PySem.W.nsIn K mainGlobals "all" = some none) (z_any : PySem.W.nsIn K mainGlobals "any" = some none) (z_enumerate : PySem.W.nsIn K mainGlobals "enumerate" = some none) (z_min : PySem.W.nsIn K mainGlobals "min" = some none) (z_str : PySem.W.nsIn K mainGlobals "str" = some none) (z_bool : PySem.W.nsIn K mainGlobals "bool" = some none) (z_set : PySem.W.nsIn K mainGlobals "set" = some none) (z_repr : PySem.W.nsIn K mainGlobals "repr" = some none) (z_sum : PySem.W.nsIn K mainGlobals "sum" = some none) (z_sorted : PySem.W.nsIn K mainGlobals "sorted" = some none) (z_ValueError : PySem.W.nsIn K mainGlobals "ValueError" = some none) (z_super : PySem.W.nsIn K mainGlobals "super" = some none) {t_MOST_ROOMS : Tok} (y_MOST_ROOMS : PySem.W.nsIn K mainGlobals "MOST_ROOMS" = some (some (.int 60 t_MOST_ROOMS))) {t_TEXT_LETTERS : Tok} (y_TEXT_LETTERS : PySem.W.nsIn K mainGlobals "TEXT_LETTERS" = some (some (.int 40 t_TEXT_LETTERS))) {t_MOST_NUMBER : Tok} (y_MOST_NUMBER : PySem.W.nsIn K mainGlobals "MOST_NUMBER" = some (some (.int 100 t_MOST_NUMBER))) {t_SMALL : Tok} (y_SMALL : PySem.W.nsIn K mainGlobals "SMALL" = some (some (.str SMALL t_SMALL)))
    (aC : PySem.W.nsIn K mainGlobals "Reader" = some (some (.ref C))) (pg : PySem.W.plainGet K C Str.empty = true) (hd : PySem.W.hasDictIn K C = true) (po : PySem.W.plainOver K C = true) (sa : PySem.W.findIn K (.ref C) "__setattr__" = some (some (.builtin "object.__setattr__")))
    (nA : PySem.W.findIn K (.ref C) "alphabet" = some none) (nM : PySem.W.findIn K (.ref C) "moves" = some none) (nG : PySem.W.findIn K (.ref C) "good" = some none)
    (ha : PySem.W.findIn K (.ref C) "__class__" = some (some (.builtin "object.__class__"))) (hn : PySem.W.specialIn K (.builtin "object.__class__") "__get__" = some (some (.builtin "getset_descriptor.__get__"))) (htk : PySem.W.takesIn K (.builtin "object.__class__") = some true) (hm : PySem.W.mroIn K C (.type "object") = some true)
    (ne : PySem.W.findIn K (.ref C) "__ne__" = some (some (.builtin "object.__ne__"))) (kl : PySem.W.kitOne K (.ref C) (.type "list") = some false)
    (aL : PySem.W.nsIn K mainGlobals "LotsError" = some (some (.ref l))) (aWT : PySem.W.nsIn K mainGlobals "WrongThing" = some (some (.ref wt))) (aWI : PySem.W.nsIn K mainGlobals "WrongItem" = some (some (.ref wi))) (aTM : PySem.W.nsIn K mainGlobals "TooMany" = some (some (.ref tm))) (aUN : PySem.W.nsIn K mainGlobals "Unlike" = some (some (.ref un))) (aNN : PySem.W.nsIn K mainGlobals "NoName" = some (some (.ref nn)))
    (eT : ErF K ⟨l, wt, wi, tm, un, nn⟩ tm true false) (eU : ErF K ⟨l, wt, wi, tm, un, nn⟩ un false true) : Txt K mg C ⟨l, wt, wi, tm, un, nn⟩ :=
  ⟨PySem.W.mg_none_of X G z_int, PySem.W.mg_none_of X G z_len, PySem.W.mg_none_of X G z_abs, PySem.W.mg_none_of X G z_range, PySem.W.mg_none_of X G z_tuple, PySem.W.mg_none_of X G z_list, PySem.W.mg_none_of X G z_isinstance, PySem.W.mg_none_of X G z_all, PySem.W.mg_none_of X G z_any, PySem.W.mg_none_of X G z_enumerate, PySem.W.mg_none_of X G z_min, PySem.W.mg_none_of X G z_str, PySem.W.mg_none_of X G z_bool, PySem.W.mg_none_of X G z_set, PySem.W.mg_none_of X G z_repr, PySem.W.mg_none_of X G z_sum, PySem.W.mg_none_of X G z_sorted, PySem.W.mg_none_of X G z_ValueError, PySem.W.mg_none_of X G z_super, ⟨_, PySem.W.mg_of X G y_MOST_ROOMS, ⟨_, rfl⟩⟩, ⟨_, PySem.W.mg_of X G y_TEXT_LETTERS, ⟨_, rfl⟩⟩, ⟨_, PySem.W.mg_of X G y_MOST_NUMBER, ⟨_, rfl⟩⟩, ⟨_, PySem.W.mg_of X G y_SMALL, ⟨_, rfl⟩⟩, ⟨pg, hd, po, sa⟩, nA, nM, nG, PySem.W.mg_of X G aC, ⟨⟨pg, hd, po, sa⟩, ha, hn, htk, hm, if_pos (beq_self_eq_true _)⟩, ne, hm, kl, PySem.W.mg_of X G aL, PySem.W.mg_of X G aWT, PySem.W.mg_of X G aWI, PySem.W.mg_of X G aTM, PySem.W.mg_of X G aUN, PySem.W.mg_of X G aNN, eT, eU⟩
abbrev s_TooMany : Stmt := inClass (top 10) 0
theorem ib_TooMany : IniB s_TooMany "TooMany.__init__" := ⟨NdefX.nscope_by (by decide +kernel), by decide +kernel, ⟨_, ⟨_, _, _, _, _, _, _, _, _, by decide +kernel, rfl⟩, arg_fmt (by decide +kernel) (by decide +kernel) (by decide +kernel)⟩, ⟨_, rfl, by decide +kernel⟩, fun _ _ _ _ _ _ _ us hl => match us, hl with | [_, _], _ => rfl⟩
abbrev s_Unlike : Stmt := inClass (top 11) 0
theorem ib_Unlike : IniB s_Unlike "Unlike.__init__" := ⟨NdefX.nscope_by (by decide +kernel), by decide +kernel, ⟨_, ⟨_, _, _, _, _, _, _, _, _, by decide +kernel, rfl⟩, arg_fmt (by decide +kernel) (by decide +kernel) (by decide +kernel)⟩, ⟨_, rfl, by decide +kernel⟩, fun _ _ _ _ _ _ _ us hl => match us, hl with | [_, _], _ => rfl⟩
theorem fin {P : Program} {w : World} {K : PySem.W.Frag} {mg : Str → Option Value} {C fa : Addr} {r : Er} (T : Txt K mg C r)
    (D_law_pick : DX K mg "_law_pick" s_law_pick)
    (D_is_integer : DX K mg "is_integer" s_is_integer)
    (D_is_listed : DX K mg "is_listed" s_is_listed)
    (D_is_alphabet : DX K mg "is_alphabet" s_is_alphabet)
    (D_check_alphabet : DX K mg "check_alphabet" s_check_alphabet)
    (D_reached_rooms : DX K mg "reached_rooms" s_reached_rooms)
    (D_joint_table : DX K mg "joint_table" s_joint_table)
    (D_checked_moves : DX K mg "checked_moves" s_checked_moves)
    (D_checked_good : DX K mg "checked_good" s_checked_good)
    (D_good_marks : DX K mg "good_marks" s_good_marks)
    (D_room_classes : DX K mg "room_classes" s_room_classes)
    (D_least_table : DX K mg "least_table" s_least_table)
    (D_reader_of_table : DX K mg "reader_of_table" s_reader_of_table)
    (D_check_same_letters : DX K mg "check_same_letters" s_check_same_letters)
    (D_met : DX K mg "met" s_met)
    (D_law_source : DX K mg "_law_source" s_law_source)
    (D_law_alphabet : DX K mg "_law_alphabet" s_law_alphabet)
    (D_law_word : DX K mg "_law_word" s_law_word)
    (D_law_reader : DX K mg "_law_reader" s_law_reader)
    (D_law_room : DX K mg "_law_room" s_law_room)
    (D_law_within : DX K mg "_law_within" s_law_within)
    (D_law_is_number : DX K mg "_law_is_number" s_law_is_number)
    (D_law_is_reader : DX K mg "_law_is_reader" s_law_is_reader)
    (D_law_stays : DX K mg "_law_stays" s_law_stays)
    (D_law_changed : DX K mg "_law_changed" s_law_changed)
    (D_law_line : DX K mg "_law_line" s_law_line)
    (D_parted_rooms : DX K mg "parted_rooms" s_parted_rooms)
    (D_spelled : DX K mg "spelled" s_spelled)
    (D_first_text : DX K mg "first_text" s_first_text)
    (D_parted : DX K mg "parted" s_parted)
    (D_outside : DX K mg "outside" s_outside)
    (D_useful_rooms : DX K mg "useful_rooms" s_useful_rooms)
    (D_longest_of : DX K mg "longest_of" s_longest_of)
    (D_check_number : DX K mg "check_number" s_check_number)
    (D_counts_from : DX K mg "counts_from" s_counts_from)
    (D_nth_of_length : DX K mg "nth_of_length" s_nth_of_length)
    (D_nth : DX K mg "nth" s_nth)
    (D_least : DX K mg "least" s_least)
    (D_law_texts : DX K mg "_law_texts" s_law_texts)
    (D_law_holds : DX K mg "_law_holds" s_law_holds)
    (D_law_words : DX K mg "_law_words" s_law_words)
    (D_law_refused : DX K mg "_law_refused" s_law_refused)
    (D_law_due : DX K mg "_law_due" s_law_due)
    (D_law_short : DX K mg "_law_short" s_law_short)
    (D_law_longest : DX K mg "_law_longest" s_law_longest)
    (D_law_lesser : DX K mg "_law_lesser" s_law_lesser)
    (D_law_doubled : DX K mg "_law_doubled" s_law_doubled)
    (D_law_rings : DX K mg "_law_rings" s_law_rings)
    (D_law_both : DX K mg "_law_both" s_law_both)
    (D_law_finite : DX K mg "_law_finite" s_law_finite)
    (D_law_joint : DX K mg "_law_joint" s_law_joint)
    (D_law_right : DX K mg "_law_right" s_law_right)
    (D_Readerd_initd : IX K C "Reader.__init__" s_Readerd_initd)
    (D_Readerd_eqd : MX K C "__eq__" "Reader.__eq__" s_Readerd_eqd)
    (D_Readerd_andd : OX K C (PySem.dunder Operator.BitAnd.info.2) "__and__" "Reader.__and__" s_Readerd_andd)
    (D_Readerd_ord : OX K C (PySem.dunder Operator.BitOr.info.2) "__or__" "Reader.__or__" s_Readerd_ord)
    (D_Readerd_subd : OX K C (PySem.dunder Operator.Sub.info.2) "__sub__" "Reader.__sub__" s_Readerd_subd)
    (D_Reader_bare : StX K C "bare" "Reader.bare" s_Reader_bare)
    (E_TooMany : EX P K mg "TooMany" r.TooMany)
    (E_Unlike : EX P K mg "Unlike" r.Unlike)
    (L : LX K fa s_law) : ∃ fd : FuncData, (∀ (s : Shared) (v : Value), BindsTo s fd ⟨[v], []⟩ [("script", v)]) ∧ ∀ base : Heap, K.In base → base.Ns mainGlobals mg → FnOk P w K mg base C8.CX0 11 fa fd ["script"] (sp_law K) := by
  obtain ⟨fdL, FL, bL⟩ := L
  refine ⟨fdL, bL, fun base _ _ => ?_⟩
  have e_TooMany := E_TooMany w base
  have e_Unlike := E_Unlike w base
  obtain ⟨f_law_pick, fd_law_pick, F_law_pick, n_law_pick⟩ := D_law_pick
  have c_law_pick := ok_law_pick (P := P) (w := w) (base := base) F_law_pick T (C8.Fun.binds F_law_pick.fn n_law_pick (ps := ["source", "many"]) (fun _ _ _ _ _ _ us hl => match us, hl with | [_, _], _ => rfl)) 
  obtain ⟨f_is_integer, fd_is_integer, F_is_integer, n_is_integer⟩ := D_is_integer
  have c_is_integer := ok_is_integer (P := P) (w := w) (base := base) F_is_integer T (C8.Fun.binds F_is_integer.fn n_is_integer (ps := ["thing", "low", "high"]) (fun _ _ _ _ _ _ us hl => match us, hl with | [_, _, _], _ => rfl)) 
  obtain ⟨f_is_listed, fd_is_listed, F_is_listed, n_is_listed⟩ := D_is_listed
  have c_is_listed := ok_is_listed (P := P) (w := w) (base := base) F_is_listed T (C8.Fun.binds F_is_listed.fn n_is_listed (ps := ["thing"]) (fun _ _ _ _ _ _ us hl => match us, hl with | [_], _ => rfl)) 
  obtain ⟨f_is_alphabet, fd_is_alphabet, F_is_alphabet, n_is_alphabet⟩ := D_is_alphabet
  have c_is_alphabet := ok_is_alphabet (P := P) (w := w) (base := base) F_is_alphabet T (C8.Fun.binds F_is_alphabet.fn n_is_alphabet (ps := ["thing"]) (fun _ _ _ _ _ _ us hl => match us, hl with | [_], _ => rfl)) 
  obtain ⟨f_check_alphabet, fd_check_alphabet, F_check_alphabet, n_check_alphabet⟩ := D_check_alphabet
  have c_check_alphabet := ok_check_alphabet (P := P) (w := w) (base := base) F_check_alphabet T (C8.Fun.binds F_check_alphabet.fn n_check_alphabet (ps := ["thing"]) (fun _ _ _ _ _ _ us hl => match us, hl with | [_], _ => rfl)) c_is_alphabet
  obtain ⟨f_reached_rooms, fd_reached_rooms, F_reached_rooms, n_reached_rooms⟩ := D_reached_rooms
  have c_reached_rooms := ok_reached_rooms (P := P) (w := w) (base := base) F_reached_rooms T (C8.Fun.binds F_reached_rooms.fn n_reached_rooms (ps := ["moves"]) (fun _ _ _ _ _ _ us hl => match us, hl with | [_], _ => rfl)) 
  obtain ⟨f_joint_table, fd_joint_table, F_joint_table, n_joint_table⟩ := D_joint_table
  have c_joint_table := ok_joint_table (P := P) (w := w) (base := base) F_joint_table T (C8.Fun.binds F_joint_table.fn n_joint_table (ps := ["one", "other"]) (fun _ _ _ _ _ _ us hl => match us, hl with | [_, _], _ => rfl)) 
  obtain ⟨f_checked_moves, fd_checked_moves, F_checked_moves, n_checked_moves⟩ := D_checked_moves
  have c_checked_moves := ok_checked_moves (P := P) (w := w) (base := base) F_checked_moves T (C8.Fun.binds F_checked_moves.fn n_checked_moves (ps := ["alphabet", "moves"]) (fun _ _ _ _ _ _ us hl => match us, hl with | [_, _], _ => rfl)) c_is_listed c_is_integer
  obtain ⟨f_checked_good, fd_checked_good, F_checked_good, n_checked_good⟩ := D_checked_good
  have c_checked_good := ok_checked_good (P := P) (w := w) (base := base) F_checked_good T (C8.Fun.binds F_checked_good.fn n_checked_good (ps := ["moves", "good"]) (fun _ _ _ _ _ _ us hl => match us, hl with | [_, _], _ => rfl)) c_is_listed c_is_integer
  obtain ⟨f_Readerd_initd, fd_Readerd_initd, F_Readerd_initd, n_Readerd_initd, M_Readerd_initd⟩ := D_Readerd_initd
  have m_Reader : Mak P w K mg base _ "Reader" C _ [] := ⟨f_Readerd_initd, fd_Readerd_initd, ["self", "alphabet", "moves", "good"], [], M_Readerd_initd, ok_Readerd_initd (P := P) (w := w) (base := base) F_Readerd_initd T c_check_alphabet c_checked_moves c_checked_good, T.mg_Reader, C8.Fun.binds F_Readerd_initd n_Readerd_initd (fun _ _ _ _ _ _ us hl => match us, hl with | [_, _, _, _], _ => rfl), .nil⟩
  obtain ⟨f_good_marks, fd_good_marks, F_good_marks, n_good_marks⟩ := D_good_marks
  have c_good_marks := ok_good_marks (P := P) (w := w) (base := base) F_good_marks T (C8.Fun.binds F_good_marks.fn n_good_marks (ps := ["reader"]) (fun _ _ _ _ _ _ us hl => match us, hl with | [_], _ => rfl)) 
  obtain ⟨f_Readerd_eqd, fd_Readerd_eqd, F_Readerd_eqd, n_Readerd_eqd, O_Readerd_eqd⟩ := D_Readerd_eqd
  have o_eq : OwnCal P w K mg base _ C "__eq__" _ := ⟨f_Readerd_eqd, fd_Readerd_eqd, ["self", "other"], ok_Readerd_eqd (P := P) (w := w) (base := base) F_Readerd_eqd T , O_Readerd_eqd, C8.Fun.binds F_Readerd_eqd n_Readerd_eqd (fun _ _ _ _ _ _ us hl => match us, hl with | [_, _], _ => rfl)⟩
  obtain ⟨f_room_classes, fd_room_classes, F_room_classes, n_room_classes⟩ := D_room_classes
  have c_room_classes := ok_room_classes (P := P) (w := w) (base := base) F_room_classes T (C8.Fun.binds F_room_classes.fn n_room_classes (ps := ["rooms", "moves", "marks"]) (fun _ _ _ _ _ _ us hl => match us, hl with | [_, _, _], _ => rfl)) 
  obtain ⟨f_least_table, fd_least_table, F_least_table, n_least_table⟩ := D_least_table
  have c_least_table := ok_least_table (P := P) (w := w) (base := base) F_least_table T (C8.Fun.binds F_least_table.fn n_least_table (ps := ["moves", "marks"]) (fun _ _ _ _ _ _ us hl => match us, hl with | [_, _], _ => rfl)) c_reached_rooms c_room_classes
  obtain ⟨f_reader_of_table, fd_reader_of_table, F_reader_of_table, n_reader_of_table⟩ := D_reader_of_table
  have c_reader_of_table := ok_reader_of_table (P := P) (w := w) (base := base) F_reader_of_table T (C8.Fun.binds F_reader_of_table.fn n_reader_of_table (ps := ["alphabet", "moves", "marks"]) (fun _ _ _ _ _ _ us hl => match us, hl with | [_, _, _], _ => rfl)) c_least_table m_Reader e_TooMany
  obtain ⟨f_check_same_letters, fd_check_same_letters, F_check_same_letters, n_check_same_letters⟩ := D_check_same_letters
  have c_check_same_letters := ok_check_same_letters (P := P) (w := w) (base := base) F_check_same_letters T (C8.Fun.binds F_check_same_letters.fn n_check_same_letters (ps := ["one", "other"]) (fun _ _ _ _ _ _ us hl => match us, hl with | [_, _], _ => rfl)) e_Unlike
  obtain ⟨f_met, fd_met, F_met, n_met⟩ := D_met
  have c_met := ok_met (P := P) (w := w) (base := base) F_met T (C8.Fun.binds F_met.fn n_met (ps := ["one", "other", "wanted"]) (fun _ _ _ _ _ _ us hl => match us, hl with | [_, _, _], _ => rfl)) c_check_same_letters c_joint_table c_good_marks c_reader_of_table
  obtain ⟨f_Readerd_andd, fd_Readerd_andd, F_Readerd_andd, n_Readerd_andd, cd_Readerd_andd, r_Readerd_andd, hc_Readerd_andd, hm_Readerd_andd, hf_Readerd_andd, hi_Readerd_andd⟩ := D_Readerd_andd
  have o_and : OpM P w K mg base _ C (PySem.dunder Operator.BitAnd.info.2) _ := ⟨⟨f_Readerd_andd, fd_Readerd_andd, ["self", "other"], cd_Readerd_andd, r_Readerd_andd, ok_Readerd_andd (P := P) (w := w) (base := base) F_Readerd_andd T c_met, C8.Fun.binds F_Readerd_andd n_Readerd_andd (fun _ _ _ _ _ _ us hl => match us, hl with | [_, _], _ => rfl), hc_Readerd_andd, hm_Readerd_andd, hf_Readerd_andd, hi_Readerd_andd⟩⟩
  obtain ⟨f_Readerd_ord, fd_Readerd_ord, F_Readerd_ord, n_Readerd_ord, cd_Readerd_ord, r_Readerd_ord, hc_Readerd_ord, hm_Readerd_ord, hf_Readerd_ord, hi_Readerd_ord⟩ := D_Readerd_ord
  have o_or : OpM P w K mg base _ C (PySem.dunder Operator.BitOr.info.2) _ := ⟨⟨f_Readerd_ord, fd_Readerd_ord, ["self", "other"], cd_Readerd_ord, r_Readerd_ord, ok_Readerd_ord (P := P) (w := w) (base := base) F_Readerd_ord T c_met, C8.Fun.binds F_Readerd_ord n_Readerd_ord (fun _ _ _ _ _ _ us hl => match us, hl with | [_, _], _ => rfl), hc_Readerd_ord, hm_Readerd_ord, hf_Readerd_ord, hi_Readerd_ord⟩⟩
  obtain ⟨f_Readerd_subd, fd_Readerd_subd, F_Readerd_subd, n_Readerd_subd, cd_Readerd_subd, r_Readerd_subd, hc_Readerd_subd, hm_Readerd_subd, hf_Readerd_subd, hi_Readerd_subd⟩ := D_Readerd_subd
  have o_sub : OpM P w K mg base _ C (PySem.dunder Operator.Sub.info.2) _ := ⟨⟨f_Readerd_subd, fd_Readerd_subd, ["self", "other"], cd_Readerd_subd, r_Readerd_subd, ok_Readerd_subd (P := P) (w := w) (base := base) F_Readerd_subd T c_met, C8.Fun.binds F_Readerd_subd n_Readerd_subd (fun _ _ _ _ _ _ us hl => match us, hl with | [_, _], _ => rfl), hc_Readerd_subd, hm_Readerd_subd, hf_Readerd_subd, hi_Readerd_subd⟩⟩
  obtain ⟨f_Reader_bare, p_Reader_bare, fd_Reader_bare, r_Reader_bare, F_Reader_bare, n_Reader_bare, kp_Reader_bare, sp_Reader_bare, ty_Reader_bare, rd_Reader_bare, fc_Reader_bare, rc_Reader_bare, hd_Reader_bare⟩ := D_Reader_bare
  have s_bare : StM P w K mg base _ "Reader" C "bare" _ := ⟨⟨f_Reader_bare, p_Reader_bare, fd_Reader_bare, ["alphabet"], r_Reader_bare, ok_Reader_bare (P := P) (w := w) (base := base) F_Reader_bare T c_check_alphabet m_Reader, C8.Fun.binds F_Reader_bare n_Reader_bare (fun _ _ _ _ _ _ us hl => match us, hl with | [_], _ => rfl), T.mg_Reader, kp_Reader_bare, sp_Reader_bare, ty_Reader_bare, rd_Reader_bare, fc_Reader_bare, rc_Reader_bare, hd_Reader_bare⟩⟩
  obtain ⟨f_law_source, fd_law_source, F_law_source, n_law_source⟩ := D_law_source
  have c_law_source := ok_law_source (P := P) (w := w) (base := base) F_law_source T (C8.Fun.binds F_law_source.fn n_law_source (ps := ["script", "place"]) (fun _ _ _ _ _ _ us hl => match us, hl with | [_, _], _ => rfl)) 
  obtain ⟨f_law_alphabet, fd_law_alphabet, F_law_alphabet, n_law_alphabet⟩ := D_law_alphabet
  have c_law_alphabet := ok_law_alphabet (P := P) (w := w) (base := base) F_law_alphabet T (C8.Fun.binds F_law_alphabet.fn n_law_alphabet (ps := ["source"]) (fun _ _ _ _ _ _ us hl => match us, hl with | [_], _ => rfl)) c_law_pick
  obtain ⟨f_law_word, fd_law_word, F_law_word, n_law_word⟩ := D_law_word
  have c_law_word := ok_law_word (P := P) (w := w) (base := base) F_law_word T (C8.Fun.binds F_law_word.fn n_law_word (ps := ["source", "alphabet", "most"]) (fun _ _ _ _ _ _ us hl => match us, hl with | [_, _, _], _ => rfl)) c_law_pick
  obtain ⟨f_law_reader, fd_law_reader, F_law_reader, n_law_reader⟩ := D_law_reader
  have c_law_reader := ok_law_reader (P := P) (w := w) (base := base) F_law_reader T (C8.Fun.binds F_law_reader.fn n_law_reader (ps := ["source", "many", "most"]) (fun _ _ _ _ _ _ us hl => match us, hl with | [_, _, _], _ => rfl)) c_law_pick
  obtain ⟨f_law_room, fd_law_room, F_law_room, n_law_room⟩ := D_law_room
  have c_law_room := ok_law_room (P := P) (w := w) (base := base) F_law_room T (C8.Fun.binds F_law_room.fn n_law_room (ps := ["alphabet", "moves", "text"]) (fun _ _ _ _ _ _ us hl => match us, hl with | [_, _, _], _ => rfl)) 
  obtain ⟨f_law_within, fd_law_within, F_law_within, n_law_within⟩ := D_law_within
  have c_law_within := ok_law_within (P := P) (w := w) (base := base) F_law_within T (C8.Fun.binds F_law_within.fn n_law_within (ps := ["alphabet", "told", "text"]) (fun _ _ _ _ _ _ us hl => match us, hl with | [_, _, _], _ => rfl)) c_law_room
  obtain ⟨f_law_is_number, fd_law_is_number, F_law_is_number, n_law_is_number⟩ := D_law_is_number
  have c_law_is_number := ok_law_is_number (P := P) (w := w) (base := base) F_law_is_number T (C8.Fun.binds F_law_is_number.fn n_law_is_number (ps := ["thing", "low", "high"]) (fun _ _ _ _ _ _ us hl => match us, hl with | [_, _, _], _ => rfl)) 
  obtain ⟨f_law_is_reader, fd_law_is_reader, F_law_is_reader, n_law_is_reader⟩ := D_law_is_reader
  have c_law_is_reader := ok_law_is_reader (P := P) (w := w) (base := base) F_law_is_reader T (C8.Fun.binds F_law_is_reader.fn n_law_is_reader (ps := ["reader", "alphabet"]) (fun _ _ _ _ _ _ us hl => match us, hl with | [_, _], _ => rfl)) c_law_is_number
  obtain ⟨f_law_stays, fd_law_stays, F_law_stays, n_law_stays⟩ := D_law_stays
  have c_law_stays := ok_law_stays (P := P) (w := w) (base := base) F_law_stays T (C8.Fun.binds F_law_stays.fn n_law_stays (ps := ["alphabet", "machine", "reader"]) (fun _ _ _ _ _ _ us hl => match us, hl with | [_, _, _], _ => rfl)) c_law_is_reader
  obtain ⟨f_law_changed, fd_law_changed, F_law_changed, n_law_changed⟩ := D_law_changed
  have c_law_changed := ok_law_changed (P := P) (w := w) (base := base) F_law_changed T (C8.Fun.binds F_law_changed.fn n_law_changed (ps := ["source", "told"]) (fun _ _ _ _ _ _ us hl => match us, hl with | [_, _], _ => rfl)) c_law_pick
  obtain ⟨f_law_line, fd_law_line, F_law_line, n_law_line⟩ := D_law_line
  have c_law_line := ok_law_line (P := P) (w := w) (base := base) F_law_line T (C8.Fun.binds F_law_line.fn n_law_line (ps := ["alphabet", "word", "cut"]) (fun _ _ _ _ _ _ us hl => match us, hl with | [_, _, _], _ => rfl)) 
  obtain ⟨f_parted_rooms, fd_parted_rooms, F_parted_rooms, n_parted_rooms⟩ := D_parted_rooms
  have c_parted_rooms := ok_parted_rooms (P := P) (w := w) (base := base) F_parted_rooms T (C8.Fun.binds F_parted_rooms.fn n_parted_rooms (ps := ["moves", "unlike"]) (fun _ _ _ _ _ _ us hl => match us, hl with | [_, _], _ => rfl)) 
  obtain ⟨f_spelled, fd_spelled, F_spelled, n_spelled⟩ := D_spelled
  have c_spelled := ok_spelled (P := P) (w := w) (base := base) F_spelled T (C8.Fun.binds F_spelled.fn n_spelled (ps := ["alphabet", "row"]) (fun _ _ _ _ _ _ us hl => match us, hl with | [_, _], _ => rfl)) 
  obtain ⟨f_first_text, fd_first_text, F_first_text, n_first_text⟩ := D_first_text
  have c_first_text := ok_first_text (P := P) (w := w) (base := base) F_first_text T (C8.Fun.binds F_first_text.fn n_first_text (ps := ["reader", "other", "unlike"]) (fun _ _ _ _ _ _ us hl => match us, hl with | [_, _, _], _ => rfl)) c_check_same_letters c_joint_table c_good_marks c_parted_rooms c_spelled
  obtain ⟨f_parted, fd_parted, F_parted, n_parted⟩ := D_parted
  have c_parted := ok_parted (P := P) (w := w) (base := base) F_parted T (C8.Fun.binds F_parted.fn n_parted (ps := ["reader", "other"]) (fun _ _ _ _ _ _ us hl => match us, hl with | [_, _], _ => rfl)) c_first_text
  obtain ⟨f_outside, fd_outside, F_outside, n_outside⟩ := D_outside
  have c_outside := ok_outside (P := P) (w := w) (base := base) F_outside T (C8.Fun.binds F_outside.fn n_outside (ps := ["reader", "other"]) (fun _ _ _ _ _ _ us hl => match us, hl with | [_, _], _ => rfl)) c_first_text
  obtain ⟨f_useful_rooms, fd_useful_rooms, F_useful_rooms, n_useful_rooms⟩ := D_useful_rooms
  have c_useful_rooms := ok_useful_rooms (P := P) (w := w) (base := base) F_useful_rooms T (C8.Fun.binds F_useful_rooms.fn n_useful_rooms (ps := ["reader"]) (fun _ _ _ _ _ _ us hl => match us, hl with | [_], _ => rfl)) c_reached_rooms
  obtain ⟨f_longest_of, fd_longest_of, F_longest_of, n_longest_of⟩ := D_longest_of
  have c_longest_of := ok_longest_of (P := P) (w := w) (base := base) F_longest_of T (C8.Fun.binds F_longest_of.fn n_longest_of (ps := ["reader"]) (fun _ _ _ _ _ _ us hl => match us, hl with | [_], _ => rfl)) c_useful_rooms
  obtain ⟨f_check_number, fd_check_number, F_check_number, n_check_number⟩ := D_check_number
  have c_check_number := ok_check_number (P := P) (w := w) (base := base) F_check_number T (C8.Fun.binds F_check_number.fn n_check_number (ps := ["thing", "low", "high"]) (fun _ _ _ _ _ _ us hl => match us, hl with | [_, _, _], _ => rfl)) c_is_integer
  obtain ⟨f_counts_from, fd_counts_from, F_counts_from, n_counts_from⟩ := D_counts_from
  have c_counts_from := ok_counts_from (P := P) (w := w) (base := base) F_counts_from T (C8.Fun.binds F_counts_from.fn n_counts_from (ps := ["reader", "length"]) (fun _ _ _ _ _ _ us hl => match us, hl with | [_, _], _ => rfl)) 
  obtain ⟨f_nth_of_length, fd_nth_of_length, F_nth_of_length, n_nth_of_length⟩ := D_nth_of_length
  have c_nth_of_length := ok_nth_of_length (P := P) (w := w) (base := base) F_nth_of_length T (C8.Fun.binds F_nth_of_length.fn n_nth_of_length (ps := ["reader", "number", "counts"]) (fun _ _ _ _ _ _ us hl => match us, hl with | [_, _, _], _ => rfl)) 
  obtain ⟨f_nth, fd_nth, F_nth, n_nth⟩ := D_nth
  have c_nth := ok_nth (P := P) (w := w) (base := base) F_nth T (C8.Fun.binds F_nth.fn n_nth (ps := ["reader", "number"]) (fun _ _ _ _ _ _ us hl => match us, hl with | [_, _], _ => rfl)) c_check_number c_longest_of c_counts_from c_nth_of_length
  obtain ⟨f_least, fd_least, F_least, n_least⟩ := D_least
  have c_least := ok_least (P := P) (w := w) (base := base) F_least T (C8.Fun.binds F_least.fn n_least (ps := ["reader"]) (fun _ _ _ _ _ _ us hl => match us, hl with | [_], _ => rfl)) c_reader_of_table c_good_marks e_TooMany
  obtain ⟨f_law_texts, fd_law_texts, F_law_texts, n_law_texts⟩ := D_law_texts
  have c_law_texts := ok_law_texts (P := P) (w := w) (base := base) F_law_texts T (C8.Fun.binds F_law_texts.fn n_law_texts (ps := ["alphabet", "most"]) (fun _ _ _ _ _ _ us hl => match us, hl with | [_, _], _ => rfl)) 
  obtain ⟨f_law_holds, fd_law_holds, F_law_holds, n_law_holds⟩ := D_law_holds
  have c_law_holds := ok_law_holds (P := P) (w := w) (base := base) F_law_holds T (C8.Fun.binds F_law_holds.fn n_law_holds (ps := ["word", "first", "second"]) (fun _ _ _ _ _ _ us hl => match us, hl with | [_, _, _], _ => rfl)) 
  obtain ⟨f_law_words, fd_law_words, F_law_words, n_law_words⟩ := D_law_words
  have c_law_words := ok_law_words (P := P) (w := w) (base := base) F_law_words T (C8.Fun.binds F_law_words.fn n_law_words (ps := ["error"]) (fun _ _ _ _ _ _ us hl => match us, hl with | [_], _ => rfl)) 
  obtain ⟨f_law_refused, fd_law_refused, F_law_refused, n_law_refused⟩ := D_law_refused
  have c_law_refused := ok_law_refused (P := P) (w := w) (base := base) F_law_refused T (C8.Fun.binds F_law_refused.fn n_law_refused (ps := ["one", "other"]) (fun _ _ _ _ _ _ us hl => match us, hl with | [_, _], _ => rfl)) c_parted c_outside c_law_words
  obtain ⟨f_law_due, fd_law_due, F_law_due, n_law_due⟩ := D_law_due
  have c_law_due := ok_law_due (P := P) (w := w) (base := base) F_law_due T (C8.Fun.binds F_law_due.fn n_law_due (ps := ["alphabet", "one", "other", "word"]) (fun _ _ _ _ _ _ us hl => match us, hl with | [_, _, _, _], _ => rfl)) c_law_holds
  obtain ⟨f_law_short, fd_law_short, F_law_short, n_law_short⟩ := D_law_short
  have c_law_short := ok_law_short (P := P) (w := w) (base := base) F_law_short T (C8.Fun.binds F_law_short.fn n_law_short (ps := ["alphabet", "one", "other", "word", "told"]) (fun _ _ _ _ _ _ us hl => match us, hl with | [_, _, _, _, _], _ => rfl)) c_law_texts c_law_holds c_law_within
  obtain ⟨f_law_longest, fd_law_longest, F_law_longest, n_law_longest⟩ := D_law_longest
  have c_law_longest := ok_law_longest (P := P) (w := w) (base := base) F_law_longest T (C8.Fun.binds F_law_longest.fn n_law_longest (ps := ["told"]) (fun _ _ _ _ _ _ us hl => match us, hl with | [_], _ => rfl)) 
  obtain ⟨f_law_lesser, fd_law_lesser, F_law_lesser, n_law_lesser⟩ := D_law_lesser
  have c_law_lesser := ok_law_lesser (P := P) (w := w) (base := base) F_law_lesser T (C8.Fun.binds F_law_lesser.fn n_law_lesser (ps := ["one", "other"]) (fun _ _ _ _ _ _ us hl => match us, hl with | [_, _], _ => rfl)) 
  obtain ⟨f_law_doubled, fd_law_doubled, F_law_doubled, n_law_doubled⟩ := D_law_doubled
  have c_law_doubled := ok_law_doubled (P := P) (w := w) (base := base) F_law_doubled T (C8.Fun.binds F_law_doubled.fn n_law_doubled (ps := ["source", "told"]) (fun _ _ _ _ _ _ us hl => match us, hl with | [_, _], _ => rfl)) c_law_pick
  obtain ⟨f_law_rings, fd_law_rings, F_law_rings, n_law_rings⟩ := D_law_rings
  have c_law_rings := ok_law_rings (P := P) (w := w) (base := base) F_law_rings T (C8.Fun.binds F_law_rings.fn n_law_rings (ps := ["source", "many"]) (fun _ _ _ _ _ _ us hl => match us, hl with | [_, _], _ => rfl)) c_law_pick
  obtain ⟨f_law_both, fd_law_both, F_law_both, n_law_both⟩ := D_law_both
  have c_law_both := ok_law_both (P := P) (w := w) (base := base) F_law_both T (C8.Fun.binds F_law_both.fn n_law_both (ps := ["source", "second", "alphabet"]) (fun _ _ _ _ _ _ us hl => match us, hl with | [_, _, _], _ => rfl)) c_law_pick c_law_rings c_law_word c_law_line c_law_reader c_law_doubled c_law_changed
  obtain ⟨f_law_finite, fd_law_finite, F_law_finite, n_law_finite⟩ := D_law_finite
  have c_law_finite := ok_law_finite (P := P) (w := w) (base := base) F_law_finite T (C8.Fun.binds F_law_finite.fn n_law_finite (ps := ["source", "many"]) (fun _ _ _ _ _ _ us hl => match us, hl with | [_, _], _ => rfl)) c_law_pick
  obtain ⟨f_law_joint, fd_law_joint, F_law_joint, n_law_joint⟩ := D_law_joint
  have c_law_joint := ok_law_joint (P := P) (w := w) (base := base) F_law_joint T (C8.Fun.binds F_law_joint.fn n_law_joint (ps := ["one", "other", "told"]) (fun _ _ _ _ _ _ us hl => match us, hl with | [_, _, _], _ => rfl)) c_nth c_outside o_and o_or o_sub
  obtain ⟨f_law_right, fd_law_right, F_law_right, n_law_right⟩ := D_law_right
  have c_law_right := ok_law_right (P := P) (w := w) (base := base) F_law_right T (C8.Fun.binds F_law_right.fn n_law_right (ps := ["alphabet", "plains", "readers"]) (fun _ _ _ _ _ _ us hl => match us, hl with | [_, _, _], _ => rfl)) c_law_due c_outside c_parted c_law_short c_law_lesser c_least c_law_joint o_eq
  exact ok_law FL T c_law_source c_law_alphabet c_law_both c_law_finite c_law_right c_law_longest c_longest_of c_law_is_number c_law_refused c_law_stays c_law_pick c_parted c_law_due c_outside m_Reader s_bare
theorem bits_lt {z : Int} {n : Nat} (h : Builtin.Int.intBits z ≤ n) : z.natAbs < 2 ^ n := by
  have e : z.natAbs < 2 ^ (Builtin.Int.intBits z) := by
    unfold Builtin.Int.intBits
    split
    · rename_i h0
      simp_all
    · exact Nat.lt_log2_self
  exact Nat.lt_of_lt_of_le e (Nat.pow_le_pow_right (by decide) h)
theorem walk {l : PySem.W.OpenLaw} {q : Program} {loose : List Str} {XP : (Str → Option Value) → Heap → Prop} {YP : World → Heap → Prop} {d : DefRec} {K : Params → PySem.W.Frag} (hn : l.most = some 63) (hdf : d.params.defaults = [])
    (hY : ∀ (w : World) (h : Heap), YP w h → (K w.params).In h)
    (F : ∀ (w : World) (mg : Str → Option Value) (fa : Addr) (h : Heap), (K w.params).In h → h.Ns mainGlobals mg → mg d.name = some (.ref fa) →
      ∃ fd : FuncData, (∀ (s : Shared) (u : Value), BindsTo s fd ⟨[u], []⟩ [("script", u)]) ∧ ∀ base : Heap, (K w.params).In base → base.Ns mainGlobals mg → FnOk l.prog w (K w.params) mg base C8.CX0 11 fa fd ["script"] (sp_law (K w.params))) :
    PySem.W.WalkO q loose XP YP l.row.toRowW d [] (fun f vs => PySem.call f vs) :=
  L2.walk_ofB (n := 63) (k := 11) (x := "script") (CX := fun _ => C8.CX0) (sp := fun w => sp_law (K w.params)) hn (by decide) hdf ⟨by first | rfl | decide, by decide, by decide⟩ hY F (fun _ _ a ns hl hbits _ hS => ⟨a, ns, rfl, hS, hl, fun n hn => bits_lt (hbits n hn), fun _ => rfl⟩) fun _ _ _ _ _ z => z
end X
open PySem PySem.W PyProof.Rows
set_option maxRecDepth 100000 in
set_option maxHeartbeats 0 in
theorem PySem.Challenge.cw_untoldlots_k11_whole_parted_least_holds : PySem.Challenge.rw_untoldlots_k11_whole_parted_least.Holds := by
  w_on; o_law; k_head; (case hw => w_witness2)
  k_fill
  refine X.walk (l := PySem.Challenge.rw_untoldlots_k11_whole_parted_least) rfl rfl (fun w h Y => PySem.W.kIn_of Y) ?F
  case F =>
    intro w mg fa h KX G hmg
    refine' X.fin (X.txt_mk KX G ?z_int ?z_len ?z_abs ?z_range ?z_tuple ?z_list ?z_isinstance ?z_all ?z_any ?z_enumerate ?z_min ?z_str ?z_bool ?z_set ?z_repr ?z_sum ?z_sorted ?z_ValueError ?z_super ?y_MOST_ROOMS ?y_TEXT_LETTERS ?y_MOST_NUMBER ?y_SMALL ?aC ?pg ?hd ?po ?sa ?nA ?nM ?nG ?ha ?hn ?htk ?hm ?ne ?kl ?aL ?aWT ?aWI ?aTM ?aUN ?aNN ?eT ?eU) ?d_law_pick ?d_is_integer ?d_is_listed ?d_is_alphabet ?d_check_alphabet ?d_reached_rooms ?d_joint_table ?d_checked_moves ?d_checked_good ?d_good_marks ?d_room_classes ?d_least_table ?d_reader_of_table ?d_check_same_letters ?d_met ?d_law_source ?d_law_alphabet ?d_law_word ?d_law_reader ?d_law_room ?d_law_within ?d_law_is_number ?d_law_is_reader ?d_law_stays ?d_law_changed ?d_law_line ?d_parted_rooms ?d_spelled ?d_first_text ?d_parted ?d_outside ?d_useful_rooms ?d_longest_of ?d_check_number ?d_counts_from ?d_nth_of_length ?d_nth ?d_least ?d_law_texts ?d_law_holds ?d_law_words ?d_law_refused ?d_law_due ?d_law_short ?d_law_longest ?d_law_lesser ?d_law_doubled ?d_law_rings ?d_law_both ?d_law_finite ?d_law_joint ?d_law_right ?d_Readerd_initd ?d_Readerd_eqd ?d_Readerd_andd ?d_Readerd_ord ?d_Readerd_subd ?d_Reader_bare ?x_TooMany ?x_Unlike ?d_law
    (case aC => k_is)
    (case z_int => k_is)
    (case z_len => k_is)
    (case z_abs => k_is)
    (case z_range => k_is)
    (case z_tuple => k_is)
    (case z_list => k_is)
    (case z_isinstance => k_is)
    (case z_all => k_is)
    (case z_any => k_is)
    (case z_enumerate => k_is)
    (case z_min => k_is)
    (case z_str => k_is)
    (case z_bool => k_is)
    (case z_set => k_is)
    (case z_repr => k_is)
    (case z_sum => k_is)
    (case z_sorted => k_is)
    (case z_ValueError => k_is)
    (case z_super => k_is)
    (case y_MOST_ROOMS => k_is)
    (case y_TEXT_LETTERS => k_is)
    (case y_MOST_NUMBER => k_is)
    (case y_SMALL => k_is)
    (case pg => k_is)
    (case hd => k_is)
    (case po => k_is)
    (case sa => k_is)
    (case nA => k_is)
    (case nM => k_is)
    (case nG => k_is)
    (case ha => k_is)
    (case hn => k_is)
    (case htk => k_is)
    (case hm => k_is)
    (case ne => k_is)
    (case aL => k_is)
    (case aWT => k_is)
    (case aWI => k_is)
    (case aTM => k_is)
    (case aUN => k_is)
    (case aNN => k_is)
    (case kl => (first | k_is | rfl | kernel_rfl | decide +kernel))
    (case eT => refine' X.er_mk ?ex ?hg ?hk ?hs ?hd ?ha ?hn ?ht ?hm ?nw ?kv ?kt ?ku ?ko; (case hg => k_is); (case hk => k_is); (case hs => k_is); (case hd => k_is); (case ha => k_is); (case hn => k_is); (case ht => k_is); (case hm => k_is); (case nw => k_is); (case ex => (first | k_is | rfl | kernel_rfl | decide +kernel)); (case kv => (first | k_is | rfl | kernel_rfl | decide +kernel)); (case kt => (first | k_is | rfl | kernel_rfl | decide +kernel)); (case ku => (first | k_is | rfl | kernel_rfl | decide +kernel)); (case ko => intro z; first | (cases z; done) | (first | k_is | rfl | kernel_rfl | decide +kernel)))
    (case eU => refine' X.er_mk ?ex ?hg ?hk ?hs ?hd ?ha ?hn ?ht ?hm ?nw ?kv ?kt ?ku ?ko; (case hg => k_is); (case hk => k_is); (case hs => k_is); (case hd => k_is); (case ha => k_is); (case hn => k_is); (case ht => k_is); (case hm => k_is); (case nw => k_is); (case ex => (first | k_is | rfl | kernel_rfl | decide +kernel)); (case kv => (first | k_is | rfl | kernel_rfl | decide +kernel)); (case kt => (first | k_is | rfl | kernel_rfl | decide +kernel)); (case ku => (first | k_is | rfl | kernel_rfl | decide +kernel)); (case ko => intro z; first | (cases z; done) | (first | k_is | rfl | kernel_rfl | decide +kernel)))
    (case d_law_pick => refine' X.dx_mk KX G ?a ?l ?c ?k; (case a => k_is); (case l => k_is); (case c => k_is); (case k => k_is))
    (case d_is_integer => refine' X.dx_mk KX G ?a ?l ?c ?k; (case a => k_is); (case l => k_is); (case c => k_is); (case k => k_is))
    (case d_is_listed => refine' X.dx_mk KX G ?a ?l ?c ?k; (case a => k_is); (case l => k_is); (case c => k_is); (case k => k_is))
    (case d_is_alphabet => refine' X.dx_mk KX G ?a ?l ?c ?k; (case a => k_is); (case l => k_is); (case c => k_is); (case k => k_is))
    (case d_check_alphabet => refine' X.dx_mk KX G ?a ?l ?c ?k; (case a => k_is); (case l => k_is); (case c => k_is); (case k => k_is))
    (case d_reached_rooms => refine' X.dx_mk KX G ?a ?l ?c ?k; (case a => k_is); (case l => k_is); (case c => k_is); (case k => k_is))
    (case d_joint_table => refine' X.dx_mk KX G ?a ?l ?c ?k; (case a => k_is); (case l => k_is); (case c => k_is); (case k => k_is))
    (case d_checked_moves => refine' X.dx_mk KX G ?a ?l ?c ?k; (case a => k_is); (case l => k_is); (case c => k_is); (case k => k_is))
    (case d_checked_good => refine' X.dx_mk KX G ?a ?l ?c ?k; (case a => k_is); (case l => k_is); (case c => k_is); (case k => k_is))
    (case d_good_marks => refine' X.dx_mk KX G ?a ?l ?c ?k; (case a => k_is); (case l => k_is); (case c => k_is); (case k => k_is))
    (case d_room_classes => refine' X.dx_mk KX G ?a ?l ?c ?k; (case a => k_is); (case l => k_is); (case c => k_is); (case k => k_is))
    (case d_least_table => refine' X.dx_mk KX G ?a ?l ?c ?k; (case a => k_is); (case l => k_is); (case c => k_is); (case k => k_is))
    (case d_reader_of_table => refine' X.dx_mk KX G ?a ?l ?c ?k; (case a => k_is); (case l => k_is); (case c => k_is); (case k => k_is))
    (case d_check_same_letters => refine' X.dx_mk KX G ?a ?l ?c ?k; (case a => k_is); (case l => k_is); (case c => k_is); (case k => k_is))
    (case d_met => refine' X.dx_mk KX G ?a ?l ?c ?k; (case a => k_is); (case l => k_is); (case c => k_is); (case k => k_is))
    (case d_law_source => refine' X.dx_mk KX G ?a ?l ?c ?k; (case a => k_is); (case l => k_is); (case c => k_is); (case k => k_is))
    (case d_law_alphabet => refine' X.dx_mk KX G ?a ?l ?c ?k; (case a => k_is); (case l => k_is); (case c => k_is); (case k => k_is))
    (case d_law_word => refine' X.dx_mk KX G ?a ?l ?c ?k; (case a => k_is); (case l => k_is); (case c => k_is); (case k => k_is))
    (case d_law_reader => refine' X.dx_mk KX G ?a ?l ?c ?k; (case a => k_is); (case l => k_is); (case c => k_is); (case k => k_is))
    (case d_law_room => refine' X.dx_mk KX G ?a ?l ?c ?k; (case a => k_is); (case l => k_is); (case c => k_is); (case k => k_is))
    (case d_law_within => refine' X.dx_mk KX G ?a ?l ?c ?k; (case a => k_is); (case l => k_is); (case c => k_is); (case k => k_is))
    (case d_law_is_number => refine' X.dx_mk KX G ?a ?l ?c ?k; (case a => k_is); (case l => k_is); (case c => k_is); (case k => k_is))
    (case d_law_is_reader => refine' X.dx_mk KX G ?a ?l ?c ?k; (case a => k_is); (case l => k_is); (case c => k_is); (case k => k_is))
    (case d_law_stays => refine' X.dx_mk KX G ?a ?l ?c ?k; (case a => k_is); (case l => k_is); (case c => k_is); (case k => k_is))
    (case d_law_changed => refine' X.dx_mk KX G ?a ?l ?c ?k; (case a => k_is); (case l => k_is); (case c => k_is); (case k => k_is))
    (case d_law_line => refine' X.dx_mk KX G ?a ?l ?c ?k; (case a => k_is); (case l => k_is); (case c => k_is); (case k => k_is))
    (case d_parted_rooms => refine' X.dx_mk KX G ?a ?l ?c ?k; (case a => k_is); (case l => k_is); (case c => k_is); (case k => k_is))
    (case d_spelled => refine' X.dx_mk KX G ?a ?l ?c ?k; (case a => k_is); (case l => k_is); (case c => k_is); (case k => k_is))
    (case d_first_text => refine' X.dx_mk KX G ?a ?l ?c ?k; (case a => k_is); (case l => k_is); (case c => k_is); (case k => k_is))
    (case d_parted => refine' X.dx_mk KX G ?a ?l ?c ?k; (case a => k_is); (case l => k_is); (case c => k_is); (case k => k_is))
    (case d_outside => refine' X.dx_mk KX G ?a ?l ?c ?k; (case a => k_is); (case l => k_is); (case c => k_is); (case k => k_is))
    (case d_useful_rooms => refine' X.dx_mk KX G ?a ?l ?c ?k; (case a => k_is); (case l => k_is); (case c => k_is); (case k => k_is))
    (case d_longest_of => refine' X.dx_mk KX G ?a ?l ?c ?k; (case a => k_is); (case l => k_is); (case c => k_is); (case k => k_is))
    (case d_check_number => refine' X.dx_mk KX G ?a ?l ?c ?k; (case a => k_is); (case l => k_is); (case c => k_is); (case k => k_is))
    (case d_counts_from => refine' X.dx_mk KX G ?a ?l ?c ?k; (case a => k_is); (case l => k_is); (case c => k_is); (case k => k_is))
    (case d_nth_of_length => refine' X.dx_mk KX G ?a ?l ?c ?k; (case a => k_is); (case l => k_is); (case c => k_is); (case k => k_is))
    (case d_nth => refine' X.dx_mk KX G ?a ?l ?c ?k; (case a => k_is); (case l => k_is); (case c => k_is); (case k => k_is))
    (case d_least => refine' X.dx_mk KX G ?a ?l ?c ?k; (case a => k_is); (case l => k_is); (case c => k_is); (case k => k_is))
    (case d_law_texts => refine' X.dx_mk KX G ?a ?l ?c ?k; (case a => k_is); (case l => k_is); (case c => k_is); (case k => k_is))
    (case d_law_holds => refine' X.dx_mk KX G ?a ?l ?c ?k; (case a => k_is); (case l => k_is); (case c => k_is); (case k => k_is))
    (case d_law_words => refine' X.dx_mk KX G ?a ?l ?c ?k; (case a => k_is); (case l => k_is); (case c => k_is); (case k => k_is))
    (case d_law_refused => refine' X.dx_mk KX G ?a ?l ?c ?k; (case a => k_is); (case l => k_is); (case c => k_is); (case k => k_is))
    (case d_law_due => refine' X.dx_mk KX G ?a ?l ?c ?k; (case a => k_is); (case l => k_is); (case c => k_is); (case k => k_is))
    (case d_law_short => refine' X.dx_mk KX G ?a ?l ?c ?k; (case a => k_is); (case l => k_is); (case c => k_is); (case k => k_is))
    (case d_law_longest => refine' X.dx_mk KX G ?a ?l ?c ?k; (case a => k_is); (case l => k_is); (case c => k_is); (case k => k_is))
    (case d_law_lesser => refine' X.dx_mk KX G ?a ?l ?c ?k; (case a => k_is); (case l => k_is); (case c => k_is); (case k => k_is))
    (case d_law_doubled => refine' X.dx_mk KX G ?a ?l ?c ?k; (case a => k_is); (case l => k_is); (case c => k_is); (case k => k_is))
    (case d_law_rings => refine' X.dx_mk KX G ?a ?l ?c ?k; (case a => k_is); (case l => k_is); (case c => k_is); (case k => k_is))
    (case d_law_both => refine' X.dx_mk KX G ?a ?l ?c ?k; (case a => k_is); (case l => k_is); (case c => k_is); (case k => k_is))
    (case d_law_finite => refine' X.dx_mk KX G ?a ?l ?c ?k; (case a => k_is); (case l => k_is); (case c => k_is); (case k => k_is))
    (case d_law_joint => refine' X.dx_mk KX G ?a ?l ?c ?k; (case a => k_is); (case l => k_is); (case c => k_is); (case k => k_is))
    (case d_law_right => refine' X.dx_mk KX G ?a ?l ?c ?k; (case a => k_is); (case l => k_is); (case c => k_is); (case k => k_is))
    (case d_Readerd_initd => refine' X.ix_mk ?mk ?a ?i ?kc ?l ?c; (case a => k_is); (case mk => k_is); (case i => k_is); (case kc => k_is); (case l => k_is); (case c => k_is))
    (case d_Readerd_eqd => refine' X.mx_mk ?a ?i ?l ?c; (case a => k_is); (case i => k_is); (case l => k_is); (case c => k_is))
    (case d_Readerd_andd => refine' X.ox_mk ?a ?i ?l ?c ?xhc ?xhm; (case a => k_is); (case i => k_is); (case l => k_is); (case c => k_is); (case xhc => k_is); (case xhm => rfl))
    (case d_Readerd_ord => refine' X.ox_mk ?a ?i ?l ?c ?xhc ?xhm; (case a => k_is); (case i => k_is); (case l => k_is); (case c => k_is); (case xhc => k_is); (case xhm => rfl))
    (case d_Readerd_subd => refine' X.ox_mk ?a ?i ?l ?c ?xhc ?xhm; (case a => k_is); (case i => k_is); (case l => k_is); (case c => k_is); (case xhc => k_is); (case xhm => rfl))
    (case d_Reader_bare => refine' X.st_mk ?fc ?rc ?l ?c ?kp ?sp ?ty ?rd ?hd; (case fc => k_is); (case rc => k_is); (case l => k_is); (case c => k_is); (case kp => k_is); (case sp => k_is); (case ty => k_is); (case rd => k_is); (case hd => rfl))
    (case x_TooMany => refine' X.ex_mk X.ib_TooMany KX G ?aC ?fi ?tI ?lk ?hcd ?lc ?hvs ?hfile ?htop ?lcc ?hsup ?ox ?rv ?sa ?exC ?tyC ?kC ?cD ?sb ?su ?sB ?nf ?op; (case aC => k_is); (case fi => k_is); (case tI => k_is); (case lk => k_is); (case hcd => k_is); (case lc => k_is); (case hvs => rfl); (case hfile => (first | k_is | rfl | kernel_rfl | decide +kernel)); (case htop => (first | k_is | rfl | kernel_rfl | decide +kernel)); (case lcc => k_is); (case hsup => k_is); (case ox => k_is); (case rv => (first | k_is | rfl | kernel_rfl | decide +kernel)); (case sa => k_is); (case exC => k_is); (case tyC => k_is); (case kC => k_is); (case cD => k_is); (case sb => k_is); (case su => (first | k_is | rfl | kernel_rfl | decide +kernel)); (case sB => k_is); (case nf => k_is); (case op => k_is))
    (case x_Unlike => refine' X.ex_mk X.ib_Unlike KX G ?aC ?fi ?tI ?lk ?hcd ?lc ?hvs ?hfile ?htop ?lcc ?hsup ?ox ?rv ?sa ?exC ?tyC ?kC ?cD ?sb ?su ?sB ?nf ?op; (case aC => k_is); (case fi => k_is); (case tI => k_is); (case lk => k_is); (case hcd => k_is); (case lc => k_is); (case hvs => rfl); (case hfile => (first | k_is | rfl | kernel_rfl | decide +kernel)); (case htop => (first | k_is | rfl | kernel_rfl | decide +kernel)); (case lcc => k_is); (case hsup => k_is); (case ox => k_is); (case rv => (first | k_is | rfl | kernel_rfl | decide +kernel)); (case sa => k_is); (case exC => k_is); (case tyC => k_is); (case kC => k_is); (case cD => k_is); (case sb => k_is); (case su => (first | k_is | rfl | kernel_rfl | decide +kernel)); (case sB => k_is); (case nf => k_is); (case op => k_is))
    (case d_law => refine' X.lx_mk KX G hmg ?a ?l ?c; (case a => k_is); (case l => k_is); (case c => k_is))
#print axioms PySem.Challenge.cw_untoldlots_k11_whole_parted_least_holds
