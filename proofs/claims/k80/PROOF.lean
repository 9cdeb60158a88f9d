import PyProof.Rows.All
import Wide.All
import OpenK.AllK
import Wide.FinOn
import HandS.Base
import HandS.Call
import HandS.List
import HandS.Comp
import HandS.Iter
import HandS.Dict
import HandS.Text
import HandS.Defaults
import KE.GoesEnum
import HandS.Exc
import HandS.IsInst
import HandS.Wide
import HandS.TupAny
import HandS.Conv
import HandS.Walk
import HandS.Style
import HandS.Words
import HandS.Zip
import KE.KStateDown
import HandS.Ends
import HandS.More
import HandS.WordsExc
import HandS.Head0
import HandS.Head1
import HandS.Head2
import HandS.HeadEnd
import HandS.HeadHook1
import HandS.HeadHook2
import PySem.Challenge.RW_framejoins_k80_whole_delay_and_padding
set_option Elab.async false
set_option linter.all false
set_option maxRecDepth 100000
set_option maxHeartbeats 4000000
namespace R
open PySem L2
section
variable {σ : L2.St} {H : Hp} {Q : VK} {v x y : V} {ta tb tc te : TE} {r r' : R2} {i : Nat} {D : Ends} {t u : TS} {a b : Int} {K : PySem.W.Frag} {p : Addr} {xs ys : List V}
/-! expressions -/
theorem var (h : σ[i]? = some (some v)) (q : Q v H) : tVar i σ H Q := ⟨v, h, q⟩
theorem c (q : Q v H) : tC v σ H Q := q
theorem op (h : ta σ H fun x H1 => tb σ H1 fun y H2 => r x y H2 Q) : tOp r ta tb σ H Q := h
theorem un {r : V → Hp → VK → Prop} (h : ta σ H fun x H1 => r x H1 Q) : tUn r ta σ H Q := h
theorem i0 {g : Int → Int → V} (q : Q (g a b) H) : rI0 g (.int a) (.int b) H Q := ⟨a, b, rfl, rfl, q⟩
theorem iC {C : Int → Int → Prop} {g : Int → Int → V} (c : C a b) (q : Q (g a b) H) : rI C g (.int a) (.int b) H Q := ⟨a, b, rfl, rfl, c, q⟩
theorem iU {g : Int → V} (q : Q (g a) H) : rU g (.int a) H Q := ⟨a, rfl, q⟩
theorem eqI (q : Q (.bl (decide (a = b))) H) : rEq (.int a) (.int b) H Q := ⟨rfl, by
  have e : decide (V.int a = V.int b) = decide (a = b) := by simp
  rw [e]; exact q⟩
theorem neI (q : Q (.bl (!decide (a = b))) H) : rNe (.int a) (.int b) H Q := ⟨rfl, by
  have e : decide (V.int a = V.int b) = decide (a = b) := by simp
  rw [e]; exact q⟩
theorem eqS {s z : Str} (q : Q (.bl (decide (s = z))) H) : rEq (.str s) (.str z) H Q := ⟨rfl, by
  have e : decide (V.str s = V.str z) = decide (s = z) := by simp
  rw [e]; exact q⟩
theorem neS {s z : Str} (q : Q (.bl (!decide (s = z))) H) : rNe (.str s) (.str z) H Q := ⟨rfl, by
  have e : decide (V.str s = V.str z) = decide (s = z) := by simp
  rw [e]; exact q⟩
theorem eqG (s : scal x y = true) (q : Q (.bl (decide (x = y))) H) : rEq x y H Q := ⟨s, q⟩
theorem neG (s : scal x y = true) (q : Q (.bl (!decide (x = y))) H) : rNe x y H Q := ⟨s, q⟩
theorem tup {t : TA} (h : t σ H fun xs H1 => xs.length ≤ sizeLine ∧ ∀ p, H1 p = none → Q (.ref p) (upd H1 p (.tup xs))) : tTup t σ H Q := h
theorem lst {t : TA} (h : t σ H fun xs H1 => xs.length ≤ sizeLine ∧ ∀ p, H1 p = none → Q (.ref p) (upd H1 p (.lst xs))) : tLst t σ H Q := h
theorem nil {Q : List V → Hp → Prop} (q : Q [] H) : tNil σ H Q := q
theorem cons {Q : List V → Hp → Prop} {tr : TA} (h : ta σ H fun x H1 => tr σ H1 fun xs H2 => Q (x :: xs) H2) : tCons ta tr σ H Q := h
theorem cb {r : List V → Hp → VK → Prop} {t : TA} (h : t σ H fun vs H1 => r vs H1 Q) : tCB r t σ H Q := h
theorem call {sp : Sp} {dvs : List V} {E : XK} {t : TA} (h : t σ H fun vs H1 => sp (vs ++ dvs) H1 Q E) : tCall sp dvs E t σ H Q := h
theorem chain (h : ta σ H fun x H1 => tb σ H1 fun y H2 => r x y H2 fun z H3 => ∃ k, z = .bl k ∧ (if k = true then tc σ H3 fun w' H4 => r' y w' H4 Q else Q (.bl false) H3)) : tChain r r' ta tb tc σ H Q := h
theorem andV (h : ta σ H fun x H1 => ∃ c, x = .bl c ∧ if c = true then tb σ H1 Q else Q (.bl false) H1) : tAndV ta tb σ H Q := h
theorem orV (h : ta σ H fun x H1 => ∃ c, x = .bl c ∧ if c = true then Q (.bl true) H1 else tb σ H1 Q) : tOrV ta tb σ H Q := h
theorem notV (h : ta σ H fun x H1 => ∃ c, x = .bl c ∧ Q (.bl (!c)) H1) : tNotV ta σ H Q := h
theorem ifE {t : TT} (h : t σ H fun c H1 => if c = true then ta σ H1 Q else tb σ H1 Q) : tIf t ta tb σ H Q := h
theorem isN (h : ta σ H fun x H1 => Q (.bl (decide (x = .non))) H1) : tIsN ta σ H Q := h
theorem notN (h : ta σ H fun x H1 => Q (.bl (!decide (x = .non))) H1) : tNotN ta σ H Q := h
theorem sl {r : V → Option Int → Option Int → Hp → VK → Prop} {tl th : TO} (h : te σ H fun x H1 => tl σ H1 fun l H2 => th σ H2 fun u H3 => r x l u H3 Q) : tSl r te tl th σ H Q := h
theorem noPart {Q : Option Int → Hp → Prop} (q : Q none H) : tNoPart σ H Q := q
theorem part {Q : Option Int → Hp → Prop} (h : ta σ H fun x H1 => ∃ i, x = .int i ∧ Q (some i) H1) : tPart ta σ H Q := h
theorem ixL (h : SqL K H p xs) (e : atI xs a = some v) (q : Q v H) : rIxL K (.ref p) (.int a) H Q := ⟨p, xs, a, v, rfl, rfl, h, e, q⟩
theorem ixT (h : SqT K H p xs) (e : atI xs a = some v) (q : Q v H) : rIxT K (.ref p) (.int a) H Q := ⟨p, xs, a, v, rfl, rfl, h, e, q⟩
/-! bools at an end -/
theorem exB {P : Bool → Prop} {b : Bool} (q : P b) : ∃ k, V.bl b = .bl k ∧ P k := ⟨b, rfl, q⟩
theorem exI {P : Int → Prop} (q : P a) : ∃ k, V.int a = .int k ∧ P k := ⟨a, rfl, q⟩
theorem ifd {c A B : Prop} [Decidable c] (h1 : c → A) (h2 : ¬ c → B) : if decide c = true then A else B := by
  by_cases h : c
  · rw [if_pos (decide_eq_true h)]; exact h1 h
  · rw [if_neg (by simpa using h)]; exact h2 h
theorem ifnd {c A B : Prop} [Decidable c] (h1 : ¬ c → A) (h2 : c → B) : if (!decide c) = true then A else B := by
  by_cases h : c
  · rw [if_neg (by simpa using h)]; exact h2 h
  · rw [if_pos (by simpa using h)]; exact h1 h
/-! tests -/
theorem testT {t : TE} {Q : Bool → Hp → Prop} (h : t σ H fun x H' => ∃ k, x = .bl k ∧ Q k H') : tTest t σ H Q := h
theorem testB {t : TE} {Q : Bool → Hp → Prop} (h : t σ H fun x H' => ∃ k, x = .bl k ∧ Q k H') : tB t σ H Q := h
theorem notT {t : TT} {Q : Bool → Hp → Prop} (h : t σ H fun c H1 => Q (!c) H1) : tNot t σ H Q := h
theorem andT {t u : TT} {Q : Bool → Hp → Prop} (h : t σ H fun c H1 => if c = true then u σ H1 Q else Q false H1) : tAnd t u σ H Q := h
theorem orT {t u : TT} {Q : Bool → Hp → Prop} (h : t σ H fun c H1 => if c = true then Q true H1 else u σ H1 Q) : tOr t u σ H Q := h
/-! statements -/
theorem seq (h : t { D with nx := u D } σ H) : tSeq t u D σ H := h
theorem next (q : D.nx σ H) : tNext D σ H := q
theorem ret (h : te σ H D.rt) : tRet te D σ H := h
theorem retN (h : D.rt .non H) : tRetN D σ H := h
theorem drop (h : te σ H fun _ H1 => D.nx σ H1) : tDrop te D σ H := h
theorem brk (q : D.bk σ H) : tBreak D σ H := q
theorem cont (q : D.ct σ H) : tCont D σ H := q
theorem asg {g : TG} (h : te σ H fun x H1 => g x σ H1 D.nx) : tAsg te g D σ H := h
theorem gname {Q : L2.St → Hp → Prop} (q : Q (σ.set i (some v)) H) : gName i v σ H Q := q
theorem ifS {c : TT} (h : c σ H fun b H1 => if b = true then t D σ H1 else u D σ H1) : tIfS c t u D σ H := h
theorem aug {ti : TIp} (h : σ[i]? = some (some x)) (q : te σ H fun y H1 => ti x y H1 fun z H2 => D.nx (σ.set i (some z)) H2) : tAug i te ti D σ H := ⟨x, h, q⟩
theorem ipi {f : Int → Int → Int} (q : Q (.int (f a b)) H) : ipI f (.int a) (.int b) H Q := ⟨a, b, rfl, rfl, q⟩
theorem par {i j : Nat} {ta : TA} (h : ta σ H fun vs H1 => ∃ v w, vs = [v, w] ∧ D.nx ((σ.set i (some v)).set j (some w)) H1) : tPar i j ta D σ H := h
theorem exVs2 {P : V → V → Prop} (q : P x y) : ∃ v w, ([x, y] : List V) = [v, w] ∧ P v w := ⟨x, y, rfl, q⟩
theorem gtup {n : Nat} {g : TGs} {Q : L2.St → Hp → Prop} (h : SqT K H p xs) (l : xs.length = n) (q : g xs σ H Q) : gTup K n g (.ref p) σ H Q := ⟨p, xs, rfl, h, l, q⟩
theorem gnil {Q : L2.St → Hp → Prop} (q : Q σ H) : gNil [] σ H Q := ⟨rfl, q⟩
theorem gcons {g : TG} {gs : TGs} {vs : List V} {Q : L2.St → Hp → Prop} (h : g v σ H fun σ' H' => gs vs σ' H' Q) : gCons g gs (v :: vs) σ H Q := ⟨v, vs, rfl, h⟩
theorem gsub {to ti : TE} {t : TSet} {Q : L2.St → Hp → Prop} (h : to σ H fun o H1 => ti σ H1 fun i H2 => t o i v H2 fun H3 => Q σ H3) : gSub to ti t v σ H Q := h
theorem setL {j : Nat} {Q : Hp → Prop} (h : H p = some (.lst xs)) (e : ixN xs.length a = some j) (q : Q (upd H p (.lst (xs.set j v)))) : rSetL (.ref p) (.int a) v H Q := ⟨p, xs, a, j, rfl, rfl, h, e, q⟩
theorem bm {T : String} {r : V → List V → Hp → VK → Prop} {t : TA} (h : te σ H fun x H1 => tyV K T x H1 ∧ t σ H1 fun xs H2 => r x xs H2 Q) : tBM K T r te t σ H Q := h
theorem tyL (h : SqL K H p xs) : tyV K "list" (.ref p) H := .inl ⟨rfl, _, h⟩
theorem append (h : H p = some (.lst xs)) (l : xs.length < sizeLine) (q : Q .non (upd H p (.lst (xs ++ [v])))) : rAppend (.ref p) [v] H Q := ⟨p, xs, v, rfl, rfl, h, l, q⟩
theorem extend {p' : Addr} (h : H p = some (.lst xs)) (h' : H p' = some (.lst ys)) (l : xs.length + ys.length ≤ sizeLine) (q : Q .non (upd H p (.lst (xs ++ ys)))) : rExtend (.ref p) [.ref p'] H Q := ⟨p, p', xs, ys, rfl, rfl, h, h', l, q⟩
theorem pack {A : Prop} {B : Addr → Prop} (a : A) (h : ∀ p, B p) : A ∧ ∀ p, B p := ⟨a, h⟩
/-! heaps -/
theorem updOld {q a : Addr} {o z : HO} (nq : H q = none) (h : H a = some z) : upd H q o a = some z := by rw [upd_ne (ne_of_none h nq)]; exact h
theorem updNe {q a : Addr} {o z : HO} (n : a ≠ q) (h : H a = some z) : upd H q o a = some z := by rw [upd_ne n]; exact h
end
end R

/-! unions of rules: one derivation whatever the kinds are -/
namespace PySem
open AutoSeq1 (wpAny_loadPart')
theorem enumT_new (l : Addr) (items : Array Value) (dct : Option Addr) (n : Nat) (sl : Array (Option Value)) :
    Meets (Builtin.«enumerate.__new__» ⟨[.type "enumerate", .ref l], []⟩) (fun _ R s => s.heap.get? l = some { cls := .type "tuple", dict := dct, data := .seq items n, slots := sl } ∧
      R (.ok (.ret (.ref (s.heap.push { cls := .type "tuple_iterator", data := .fields #[.ref l, .int 0 0] }).objs.size)))
        { s with heap := (s.heap.push { cls := .type "tuple_iterator", data := .fields #[.ref l, .int 0 0] }).push { cls := .type "enumerate", data := .fields #[.none, .bool false, .ref s.heap.objs.size, rawInt 0, .none, .none] } }) :=
  .of_wp fun prog w A R s h => by
    obtain ⟨hp, g, d, tk, os⟩ := s; obtain ⟨hl, h⟩ := h
    have hsub := sub_enumerate
    have hL : Heap.IsTuple (Shared.heap ⟨hp, g, d, tk, os⟩) l items := ⟨_, hl, rfl, n, rfl⟩
    wp_walk using wpAny_loadPart' hl
    refine wpAny_stack_any fun st => wpAny_pure ?_
    split
    · rename_i c _ _ _ _ _
      cases (c == Value.type "enumerate")
      all_goals
        wp_walk using wpAny_loadPart' hl, wpAny_pyIter_tuple hL
        exact ⟨_, rfl, h⟩
    · wp_walk using wpAny_loadPart' hl, wpAny_pyIter_tuple hL
      exact ⟨_, rfl, h⟩
section
variable {prog : Program} {w : World} {A : Around} {E : Value → Shared → Prop} {s : Shared}
theorem call_enumT {l : Addr} {items : Array Value} {Q : Value → Shared → Prop} (hL : s.heap.IsTuple l items)
    (h : ∀ h', IsEnum h' (s.heap.objs.size + 1) s.heap.objs.size 0 .none → h'.IsTupleIter s.heap.objs.size l 0 → (∀ b o, s.heap.get? b = some o → h'.get? b = some o) → Q (.ref (s.heap.objs.size + 1)) { s with heap := h' }) :
    wpAny (model prog w) A (call (.type "enumerate") [.ref l]) Q E s := by
  obtain ⟨⟨c, dct, dt, sl⟩, hl, hc, n, hd⟩ := hL
  replace hc : c = .type "tuple" := hc
  replace hd : dt = .seq items n := hd
  subst hc hd
  refine callType_new F.called_enumerate (by decide) (F.typeCall_enumerate_1 _) (F.newCall_enumerate_1 _) (fun obj => F.args_object_init_2 obj _) F.entry_enumerate_new (enumT_new l items dct n sl) ⟨hl, ?_⟩
  have hz : (s.heap.push { cls := .type "tuple_iterator", data := .fields #[.ref l, .int 0 0] }).objs.size = s.heap.objs.size + 1 := Heap.size_push ..
  show _ ∧ _
  rw [hz]
  have he : IsEnum ((s.heap.push { cls := .type "tuple_iterator", data := .fields #[.ref l, .int 0 0] }).push { cls := .type "enumerate", data := .fields #[.none, .bool false, .ref s.heap.objs.size, rawInt 0, .none, .none] }) (s.heap.objs.size + 1) s.heap.objs.size 0 .none := by
    have := Heap.get?_push_size (s.heap.push { cls := .type "tuple_iterator", data := .fields #[.ref l, .int 0 0] }) (o := { cls := .type "enumerate", data := .fields #[.none, .bool false, .ref s.heap.objs.size, rawInt 0, .none, .none] }) rfl
    rw [hz] at this; exact this
  exact ⟨⟨_, he, rfl⟩, h _ he ⟨_, Heap.get?_push_of_some _ (Heap.get?_push_size _ rfl), rfl, rfl⟩ fun b o x => Heap.get?_push_of_some _ (Heap.get?_push_of_some _ x)⟩
end
end PySem

namespace U
open PySem PySem.Spec PyProof.Rows L2
/-! ### enumerate over a tuple -/
def ItT (K : PySem.W.Frag) (a : Addr) : It :=
  ⟨fun i H => ∃ (xs : List V) (x : V), SqT K H a xs ∧ xs[i]? = some x,
   fun i H v H' => ∃ T x, v = .ref T ∧ H T = none ∧ H' = upd H T (.tup [.int (i : Nat), x]) ∧ ∀ xs, SqT K H a xs → xs[i]? = some x,
   fun i H => ∃ xs : List V, SqT K H a xs ∧ xs.length ≤ i⟩
theorem turnT {P : Program} {w : World} {K : PySem.W.Frag} {elts : List Expr} {kk : Nat} {tpos : Pos} (a e it : Addr) :
    Turn P w K (.Tuple elts kk tpos) (ItT K a) [e, it] e (fun i h => (∃ old, IsEnum h e it ((i : Nat) : Int) old) ∧ h.IsTupleIter it a i ∧ e ≠ it) where
  mem := by simp
  obj := fun i h st b hb => by
    obtain ⟨⟨old, he⟩, ⟨o, ho, hc, hd⟩, _⟩ := st
    have e' : b = e ∨ b = it := by simpa using hb
    rcases e' with z | z
    · rw [z]; exact ⟨_, he, fun v q => nomatch q⟩
    · rw [z]; exact ⟨o, ho, fun v q => by rw [hd] at q; cases q⟩
  keep := fun i h h' st k => by
    obtain ⟨⟨old, he⟩, hi, hne⟩ := st
    exact ⟨⟨old, k e (by simp) _ he⟩, hi.at fun o q => k it (by simp) o q, hne⟩
  item := by
    intro X hP hw hK hc i pins s σ H E I hf st hg
    subst hP hw hK
    obtain ⟨⟨old, he⟩, hit, hne⟩ := st
    obtain ⟨xs, x, hq, hx⟩ := hg
    obtain ⟨its, rv, p, hz⟩ := I.tuple hq
    obtain ⟨u, hu, ru⟩ := rv.get hx
    have hel : e < s.heap.objs.size := Heap.lt_size he
    have hil : it < s.heap.objs.size := by obtain ⟨_, q, _⟩ := hit; exact Heap.lt_size q
    have ha : a ≠ it := by
      rintro rfl
      obtain ⟨o1, h1, _, h2⟩ := hit
      obtain ⟨o2, h3, _, _, h4⟩ := p
      rw [h1] at h3; cases h3; rw [h2] at h4; cases h4
    have hae : e ∉ [it, a] := by
      intro z
      rcases List.mem_cons.mp z with z | z
      · exact hne z
      · have z := List.mem_singleton.mp z
        subst z
        obtain ⟨o2, h3, _, _, h4⟩ := p
        rw [he] at h3; cases h3; cases h4
    have hlt : i < its.toArray.size := by
      have := (List.getElem?_eq_some_iff.mp hu).1
      simpa using this
    refine wpAny_pyNext_enum_itemD (Draws.tuple (A := X.A.in1) (I.ok.hd hc) it a ha its.toArray) he ⟨hit, p⟩ hlt hne hae fun x' h' tk hx' ho hit' hT hsz hk => ?_
    have ex : x' = u := by
      have z : its.toArray[i]? = some x' := hx'
      rw [List.getElem?_toArray] at z
      rw [hu] at z
      exact (Option.some.inj z).symm
    subst ex
    refine ⟨_, rfl, wpAny_letOwnedTupleGo_enum (s := { s with heap := h', toks := tk + 1 }) ho fun h'' he' sb => ?_⟩
    have hT2 : h''.get? s.heap.objs.size = some { cls := .type "tuple", data := .seq #[.int i tk, x'] } := (sb.2 _ (Nat.ne_of_gt hel)).trans hT
    have new : ObjOk X.prog X.w (upd H s.heap.objs.size (.tup [.int (i : Nat), x])) h'' s.heap.objs.size (.tup [.int (i : Nat), x]) :=
      ⟨by show 2 ≤ sizeLine; decide, [.int i tk, x'], .cons ⟨_, rfl⟩ (.cons ru .nil), ⟨_, hT2, rfl, _, rfl⟩⟩
    have I1 : Inv X pins σ (upd H s.heap.objs.size (.tup [.int (i : Nat), x])) { s with heap := h'', toks := tk + 1 } :=
      I.turnedNew (ch := [e, it]) (fun b ob hb q => (sb.2 b (fun z => hb (by simp [z]))).trans (hk b ob (fun z => hb (by simp [z])) (fun z => hb (by simp [z])) q)) hf (Nat.le_refl _) new
    refine ⟨.ref s.heap.objs.size, _, I1, rfl, ⟨_, x, rfl, I.hok.fresh (Nat.le_refl _), rfl, fun ys hy => by rw [I.tuple_inj hy hq]; exact hx⟩, ⟨⟨x', ?_⟩, hit'.1.at fun o q => (sb.2 it (Ne.symm hne)).trans q, hne⟩, fun b hb => ?_⟩
    · have e1 : ((i + 1 : Nat) : Int) = (i : Int) + 1 := by omega
      rw [e1]; exact he'
    · have hb' : b < s.heap.objs.size := by
        have e' : b = e ∨ b = it := by simpa using hb
        rcases e' with z | z
        · rw [z]; exact hel
        · rw [z]; exact hil
      rw [upd_ne (Nat.ne_of_lt hb')]
      exact (hf b hb).1
  done := by
    intro X hP hw hK hc i pins s σ H E I hf st hg
    subst hP hw hK
    obtain ⟨⟨old, he⟩, hit, hne⟩ := st
    obtain ⟨xs, hq, hx⟩ := hg
    obtain ⟨its, rv, p, hz⟩ := I.tuple hq
    obtain ⟨f0, f1, f2, f3, f4, f5⟩ := hf it (by simp)
    have hl := rv.length
    have ha : a ≠ it := by
      rintro rfl
      obtain ⟨o1, h1, _, h2⟩ := hit
      obtain ⟨o2, h3, _, _, h4⟩ := p
      rw [h1] at h3; cases h3; rw [h2] at h4; cases h4
    have hT : s.TypeIs (.ref e) "enumerate" := ⟨_, he, rfl⟩
    unfold pyNext
    refine wpAny_bind (wpAny_attempt (wpAny_callSpecial?_slot (name := Str.ofString "__next__") hT F.slot_enumerate_next
      (wpAny_call_entry F.slot_enumerate_next hT F.entry_enumerate_next ?_ (F.args_enumerate_next_1 _))))
    show wpAny _ _ (field (.ref e) 2 >>= _) _ _ _
    refine wpAny_bind (wpAny_field he rfl (x := .ref it) rfl ?_)
    refine wpAny_bind (wpAny_nextOf_tuple_end (I.ok.hd hc) hit p (by simp; omega) fun h' x he' hx' => ?_)
    obtain ⟨o, ho, hc'⟩ := hx'
    refine wpAny_bind (wpAny_isInstance (T := "StopIteration") (b := true) ⟨o, ho, hc'⟩ isSubtype_stop ?_)
    exact wpAny_pure ⟨rfl, I.turned (t' := s.toks) (fun b o hb q => he' b o hb q) f0 f1 f3 f4 f5⟩
  self := fun A i s Q E st h => let ⟨⟨_, he⟩, _⟩ := st; wpAny_pyIter_enum he h
/-- enumerate(e), e a list or a tuple -/
def iEn (K : PySem.W.Frag) (ta : TA) : TI := fun σ H R => ta σ H fun vs H1 => ∃ a xs, vs = [.ref a] ∧ ((SqL K H1 a xs ∧ R (Ite K a) H1) ∨ (SqT K H1 a xs ∧ R (ItT K a) H1))
theorem pi_en {X : Cx} {e : Expr} {ta : TA} {p pos tpos : Pos} {elts : List Expr} {kk : Nat} (hg : Gl X "enumerate") (hm : X.mg "enumerate" = none) (ha : PA X [e] ta) (hs : starEach [e] X.env = [(false, eval e X.env)] := by rfl) :
    PI X (.Tuple elts kk tpos) (.Call (.Name "enumerate" p) [e] [] pos) (iEn X.K ta) := by
  refine ⟨fun pins s σ H R I h => ?_⟩
  refine Call_ (ld_blt I hg hm boot_enumerate (PyProof.Rows.callWith_type1 (thn (ha.run pos pins s σ H _ I h) fun us s1 ⟨vs, H1, I1, r1, q1⟩ => ?_) hs rfl))
  obtain ⟨a, xs, ex, q1⟩ := q1
  subst ex
  have hfp : ∀ b ∈ [s1.heap.objs.size + 1, s1.heap.objs.size], FpOk X pins H1 b := fun b hb => by
    have e' : b = s1.heap.objs.size + 1 ∨ b = s1.heap.objs.size := by simpa using hb
    have hle : s1.heap.objs.size ≤ b := by
      rcases e' with z | z
      · rw [z]; exact Nat.le_add_right _ _
      · rw [z]; exact Nat.le_refl _
    exact I1.fpOk hle (I1.hok.fresh hle)
  cases r1 with
  | cons r rr =>
    cases rr
    cases r
    rcases q1 with ⟨hq, q⟩ | ⟨hq, q⟩
    · obtain ⟨its, rv, p', hz⟩ := I1.list hq
      refine call_enumerate_list p'.isList fun h' he hit hsz hk => wpAny_pyIter_enum he ?_
      have I2 : Inv X pins σ H1 { s1 with heap := h' } := I1.kept (t' := s1.toks) hk
      exact ⟨s1.heap.objs.size + 1, [s1.heap.objs.size + 1, s1.heap.objs.size], _, _, H1, rfl, I2, turn_enum a (s1.heap.objs.size + 1) s1.heap.objs.size, ⟨⟨.none, he⟩, hit, Nat.succ_ne_self _⟩, hfp, q⟩
    · obtain ⟨its, rv, p', hz⟩ := I1.tuple hq
      refine call_enumT p' fun h' he hit hk => wpAny_pyIter_enum he ?_
      have I2 : Inv X pins σ H1 { s1 with heap := h' } := I1.kept (t' := s1.toks) hk
      exact ⟨s1.heap.objs.size + 1, [s1.heap.objs.size + 1, s1.heap.objs.size], _, _, H1, rfl, I2, turnT a (s1.heap.objs.size + 1) s1.heap.objs.size, ⟨⟨.none, he⟩, hit, Nat.succ_ne_self _⟩, hfp, q⟩
/-! ### what a plain for walks: a list, a tuple, a text -/
def iSeq (K : PySem.W.Frag) (te : TE) : TI := fun σ H R => iList K te σ H R ∨ iTup K te σ H R ∨ iStr te σ H R
theorem pi_seq {X : Cx} {tg e : Expr} {te : TE} (he : PE X e te) : PI X tg e (iSeq X.K te) := by
  refine ⟨fun pins s σ H R I h => ?_⟩
  rcases h with h | h | h
  · exact (pi_list he).run pins s σ H R I h
  · exact (pi_tup he).run pins s σ H R I h
  · exact (pi_str he).run pins s σ H R I h
/-! ### operators -/
def rAdd (K : PySem.W.Frag) : R2 := fun x y H Q => rI0 (fun i j => .int (i + j)) x y H Q ∨ (∃ i j, x = .str i ∧ y = .str j ∧ i.length + j.length ≤ sizeLine ∧ Q (.str (i ++ j)) H) ∨ rCat x y H Q ∨ rCatA K x y H Q
theorem op_ad {X : Cx} : OpR X (binaryOp .Add) (rAdd X.K) := OpR.or op_add (OpR.or op_add_str (OpR.or op_cat op_catA))
abbrev rSub : R2 := rI0 fun i j => .int (i - j)
def rMul : R2 := fun x y H Q => rI CMul (fun i j => .int (i * j)) x y H Q ∨ rI CMulW (fun i j => .int (i * j)) x y H Q ∨ rRep x y H Q
theorem op_ml {X : Cx} : OpR X (binaryOp .Mult) rMul := OpR.or op_mul (OpR.or op_mulW op_rep)
abbrev rDiv : R2 := rI CDivW fun i j => .int (i / j)
abbrev rMod : R2 := rI (fun _ j => 0 < j) fun i j => .int (i % j)
abbrev rPow : R2 := rI CPow fun i j => .int (i ^ j.toNat)
def rEqU (K : PySem.W.Frag) : R2 := fun x y H Q => rEq x y H Q ∨ rEqD K x y H Q
def rNeU (K : PySem.W.Frag) : R2 := fun x y H Q => rNe x y H Q ∨ rNeD K x y H Q
theorem op_equ {X : Cx} (hu : X.A.units + 64 < cLine) : OpR X (compareOp .Eq) (rEqU X.K) := OpR.or op_eq (op_eqD hu)
theorem op_neu {X : Cx} (hu : X.A.units + 64 < cLine) : OpR X (compareOp .NotEq) (rNeU X.K) := OpR.or op_ne (op_neD hu)
abbrev rLt : R2 := rI0 fun i j => .bl (decide (i < j))
abbrev rLe : R2 := rI0 fun i j => .bl (decide (i ≤ j))
abbrev rGt : R2 := rI0 fun i j => .bl (decide (j < i))
abbrev rGe : R2 := rI0 fun i j => .bl (decide (j ≤ i))
/-! ### a def of the module, whatever it lets out -/
structure GFn (P : Program) (w : World) (K : PySem.W.Frag) (mg : Str → Option Value) (base : Heap) (k : Nat) (x : Str) (ps : List Str) (sp : Sp) : Prop where
  ex : ∃ (f : Addr) (fd : FuncData), FnOk P w K mg base (L2.CX P w) k f fd ps sp ∧ mg x = some (.ref f) ∧ PySem.W.keepIn K (.ref f) = true ∧ Binds K fd ps []
theorem GFn.imp {P : Program} {w : World} {K : PySem.W.Frag} {mg : Str → Option Value} {base : Heap} {k : Nat} {x : Str} {ps : List Str} {sp sp' : Sp} (G : GFn P w K mg base k x ps sp) (h : ∀ vs H Q E, sp' vs H Q E → sp vs H Q E) : GFn P w K mg base k x ps sp' := by
  obtain ⟨f, fd, F, m, kp, b⟩ := G.ex
  exact ⟨f, fd, F.imp h, m, kp, b⟩
section
variable {X : Cx} {k : Nat} {x : Str} {ps : List Str} {sp : Sp} {E : XK} {p pos : Pos} {e : Expr} {es : List Expr} {t : TA}
theorem pe_g (G : GFn X.prog X.w X.K X.mg X.base k x ps sp) (hr : Room k X.A) (hg : Gl X x) (hx : Passes (L2.CX X.prog X.w) X E) (ha : PA X (e :: es) t)
    (hdb : (x == ("__debug__" : Str)) = false := by decide) (he : starEach (e :: es) X.env = (false, eval e X.env) :: starEach es X.env := by rfl) (hpl : (backTo pos (starEach es X.env)).any (·.1) = false := by rfl) :
    PE X (.Call (.Name x p) (e :: es) [] pos) (tCall sp [] E t) := by
  obtain ⟨f, fd, F, m, kp, b⟩ := G.ex
  exact pe_call F hr hg m kp b .nil hx ha hdb he hpl
theorem pe_g0 (G : GFn X.prog X.w X.K X.mg X.base k x ps sp) (hr : Room k X.A) (hg : Gl X x) (hx : Passes (L2.CX X.prog X.w) X E) (hdb : (x == ("__debug__" : Str)) = false := by decide) :
    PE X (.Call (.Name x p) [] [] pos) (tCall sp [] E tNil) := by
  obtain ⟨f, fd, F, m, kp, b⟩ := G.ex
  exact pe_call0 F hr hg m kp b .nil hx hdb
end
/-- what a def's own body wants of exceptions -/
theorem px {X : Cx} {E : XK} (hs : X.stack = X.env :: X.outer) (hf : X.env.frame = some X.env.locals) (hex : X.ex = []) {E₁ : Value → Shared → Prop}
    (hx : X.xe = fun e s' => wpAny (model X.prog X.w) X.A (leaving X.env e) (fun _ s'' => L2.CX X.prog X.w X.outer X.H_0 X.s_0 E e s'') E₁ s') : Passes (L2.CX X.prog X.w) X E :=
  passes_call (takes_of hs hf hex hx) fun _ _ _ _ h => h
end U
namespace U
open PySem PySem.Spec PyProof.Rows L2
/-! ### calls by keywords alone -/
def pickV {α : Type} : List Nat → List α → List α
  | [], _ => []
  | i :: r, l => (match l[i]? with | some x => [x] | none => []) ++ pickV r l
theorem pickV_rel {vs : List V} {us : List Value} (r : Vals vs us) : ∀ is : List Nat, Vals (pickV is vs) (pickV is us)
  | [] => .nil
  | i :: is => by
    unfold pickV
    cases e : vs[i]? with
    | none => rw [r.none_of e]; exact pickV_rel r is
    | some x =>
      obtain ⟨u, hu, ru⟩ := r.get e
      rw [hu]
      exact .cons ru (pickV_rel r is)
structure KPerm (fd : FuncData) (ps ks : List Str) (is : List Nat) : Prop where
  b : ∀ ws : List Value, ws.length = ks.length → bindArgs fd ⟨[], ks.zip ws⟩ = pure (ps.zip (pickV is ws))
theorem kperm {K : PySem.W.Frag} {x qual : Str} {params : Arguments} {body : List Stmt} {scope : Scope} {f : Addr} {fd : FuncData} {ps ks : List Str} {is : List Nat} (F : FunD K x qual params body scope [] [] f fd)
    (h : ∀ (kV doc pm : Value) (an : Option Addr) (cdv ct : Value) (ws : List Value), ws.length = ks.length → bindArgs (PySem.W.fnOf x qual params body scope .none kV doc pm an cdv ct) ⟨[], ks.zip ws⟩ = pure (ps.zip (pickV is ws))) : KPerm fd ps ks is := by
  obtain ⟨oc, od, dV, kV, doc, pm, an, cdv, ct, osl, rfl, lk, hcd, hD, hK⟩ := F.ex
  rcases hD with ⟨_, rfl⟩ | ⟨e, _⟩
  · exact ⟨fun ws hl => h kV doc pm an cdv ct ws hl⟩
  · exact absurd rfl e
/-- as GFn, called by keywords named ks -/
structure GKw (P : Program) (w : World) (K : PySem.W.Frag) (mg : Str → Option Value) (base : Heap) (k : Nat) (x : Str) (ps ks : List Str) (is : List Nat) (sp : Sp) : Prop where
  ex : ∃ (f : Addr) (fd : FuncData), FnOk P w K mg base (L2.CX P w) k f fd ps sp ∧ mg x = some (.ref f) ∧ PySem.W.keepIn K (.ref f) = true ∧ KPerm fd ps ks is
def tCallP (sp : Sp) (n : Nat) (is : List Nat) (E : XK) (tk : TA) : TE := fun σ H Q => tk σ H fun zs H2 => zs.length = n ∧ sp (pickV is zs) H2 Q E
theorem pe_gk {X : Cx} {k : Nat} {x : Str} {ps ks : List Str} {is : List Nat} {sp : Sp} {E : XK} {p pos : Pos} {kws : List Keyword} {tk : TA}
    (G : GKw X.prog X.w X.K X.mg X.base k x ps ks is sp) (hr : Room k X.A) (hg : Gl X x) (hx : Passes (L2.CX X.prog X.w) X E) (hkw : PK X kws tk)
    (hall : (backToKw pos (keywordEach kws X.env)).all (·.1.isSome) = true := by rfl) (hks : (backToKw pos (keywordEach kws X.env)).filterMap (·.1) = ks := by rfl) (hdb : (x == ("__debug__" : Str)) = false := by decide)
    (hpl : ((backTo pos (starEach [] X.env)).any (·.1) || (backToKw pos (keywordEach kws X.env)).any (·.1.isNone)) = false := by rfl) :
    PE X (.Call (.Name x p) [] kws pos) (tCallP sp ks.length is E tk) := by
  obtain ⟨f, fd, F, m, kp, b⟩ := G.ex
  refine ⟨fun pins s σ H Q I h => ?_⟩
  refine wpAny_Call_Name_kw (ld_glob I hg m ?_ hdb)
  refine PySem.W.callWith_KW0 (h₀ := X.base) I.ok.mod.kin kp hall ?_ hpl
  refine thn (hkw.run pos pins s σ H _ I h) fun ws s2 ⟨zs, H2, I2, rz, l2, q2⟩ => ⟨I2.kIn, ?_⟩
  rw [hks]
  have B : KBn X.K fd ps 0 ks (fun _ ws => pickV is ws) (fun _ zs => pickV is zs) := ⟨fun s us ws _ l1 l2 => by
    have e : us = [] := List.length_eq_zero_iff.mp l1
    subst e
    exact .of_eq (b.b ws l2), fun _ r => pickV_rel r is⟩
  exact run_fnN (us := []) (vs := []) (n := 0) F hr B hx I2 .nil rz rfl l2 q2
/-- a constant of the module -/
theorem pe_gc {X : Cx} {x : Str} {v : V} {pos : Pos} (hg : Gl X x) (h : ∃ u, X.mg x = some u ∧ RelV v u) (hd : (x == ("__debug__" : Str)) = false := by decide) : PE X (.Name x pos) (tC v) := by
  obtain ⟨u, hm, r⟩ := h
  exact pe_glob hg hm r hd
/-! ### readings of calls by values, named -/
def rAbs : List V → Hp → VK → Prop := fun xs H Q => ∃ i, xs = [.int i] ∧ Q (.int (if i < 0 then -i else i)) H
def rMax2 : List V → Hp → VK → Prop := fun xs H Q => ∃ i j, xs = [.int i, .int j] ∧ Q (.int (if j > i then j else i)) H
def rMin2 : List V → Hp → VK → Prop := fun xs H Q => ∃ i j, xs = [.int i, .int j] ∧ Q (.int (if j < i then j else i)) H
def rInt : List V → Hp → VK → Prop := fun xs H Q => ((∃ i, xs = [.int i] ∧ Q (.int i) H) ∨ ∃ k, xs = [.bl k] ∧ Q (.int (if k then 1 else 0)) H) ∨ ∃ a n, xs = [.str a] ∧ PySem.intText? a = some n ∧ a.length ≤ 640 ∧ Q (.int n) H
theorem call_in {X : Cx} : CallR X (.type "int") rInt := CallR.or call_int1 call_int_str
def rLen (K : PySem.W.Frag) : List V → Hp → VK → Prop := fun xs H Q => (∃ p ys, xs = [.ref p] ∧ (SqL K H p ys ∨ SqT K H p ys) ∧ Q (.int ys.length) H) ∨ ∃ z, xs = [.str z] ∧ z.length ≤ sizeLine ∧ Q (.int z.length) H
theorem call_ln {X : Cx} : CallR X (.builtin "len") (rLen X.K) := CallR.or call_len_seq call_len_str
def rList (K : PySem.W.Frag) : List V → Hp → VK → Prop := fun xs H Q => ∃ p ys, xs = [.ref p] ∧ (SqL K H p ys ∨ SqT K H p ys) ∧ ∀ l, H l = none → Q (.ref l) (upd H l (.lst ys))
def rTup (K : PySem.W.Frag) : List V → Hp → VK → Prop := fun xs H Q => ∃ p ys, xs = [.ref p] ∧ ((SqL K H p ys ∧ ∀ l, H l = none → Q (.ref l) (upd H l (.tup ys))) ∨ (SqT K H p ys ∧ Q (.ref p) H))
/-! ### slices, in-place operators -/
def rIpAdd : TIp := fun x y H Q => rI0 (fun i j => .int (i + j)) x y H Q ∨ ∃ i j, x = .str i ∧ y = .str j ∧ i.length + j.length ≤ sizeLine ∧ Q (.str (i ++ j)) H
theorem ip_ad {X : Cx} : PIp X .Add rIpAdd := OpR.or iop_add iop_add_str
abbrev rIpMul : TIp := rI CMul fun i j => .int (i * j)
theorem ip_ml {X : Cx} : PIp X .Mult rIpMul := iop_mul
def rSlU (K : PySem.W.Frag) : V → Option Int → Option Int → Hp → VK → Prop := fun x lo hi H Q => rSlL K x lo hi H Q ∨ rSlA K x lo hi H Q ∨ rSlS x lo hi H Q
theorem sl_u {X : Cx} : SlR X (rSlU X.K) := SlR.or sl_list (SlR.or sl_tupA sl_str)
theorem body {P : Program} {w : World} {K : PySem.W.Frag} {mg : Str → Option Value} {base : Heap} {N : List Str} {qual : Str} {scope : Scope} {f : Addr} {cdv : Value} {A : Around} {outer : List Env} {s : Shared} {H : Hp} {E : XK} {b : List Stmt} {t : TS}
    (h : Passes (L2.CX P w) (cxOf (L2.CX P w) P w K mg base N qual scope f cdv A outer s H E) E → PassesOwn (model P w) (cxOf (L2.CX P w) P w K mg base N qual scope f cdv A outer s H E).A (cxOf (L2.CX P w) P w K mg base N qual scope f cdv A outer s H E).env (cxOf (L2.CX P w) P w K mg base N qual scope f cdv A outer s H E).xe →
      PSs (cxOf (L2.CX P w) P w K mg base N qual scope f cdv A outer s H E) b t) : PSs (cxOf (L2.CX P w) P w K mg base N qual scope f cdv A outer s H E) b t := h (px rfl rfl rfl rfl) (passes_of rfl)
end U
namespace U
open PySem PySem.Spec PyProof.Rows L2
/-- a statement that is not reached -/
def tNever : TS := fun _ _ _ => False
theorem ps_never {X : Cx} {st : Stmt} : PS X st tNever := ⟨fun _ _ _ _ _ _ h => h.elim⟩
end U
namespace U
open PySem PySem.Spec PyProof.Rows L2
/-- a op1 b op2 c op3 d -/
def tChain3 (r1 r2 r3 : R2) (ta tb tc td : TE) : TE := fun σ H Q => ta σ H fun x H1 => tb σ H1 fun y H2 => r1 x y H2 fun z H3 => ∃ k, z = .bl k ∧
  (if k = true then tc σ H3 fun w H4 => r2 y w H4 fun z2 H5 => ∃ k2, z2 = .bl k2 ∧ (if k2 = true then td σ H5 fun u H6 => r3 w u H6 Q else Q (.bl false) H5) else Q (.bl false) H3)
theorem pt_chain3 {X : Cx} {a b c d : Expr} {ta tb tc td : TE} {pos : Pos} {op op' op'' : CmpOp} {r r' r'' : R2} (ho : OpR X (compareOp op) r) (ho' : OpR X (compareOp op') r') (ho'' : OpR X (compareOp op'') r'') (ha : PE X a ta) (hb : PE X b tb) (hc : PE X c tc) (hd : PE X d td)
    (hm : lastMarks [op, op', op''] [b, c, d] = false := by with_unfolding_all rfl) : PT X (.Compare a [op, op', op''] [b, c, d] pos) (tTest (tChain3 r r' r'' ta tb tc td)) := by
  refine ⟨fun pins s σ H Q I h => ?_⟩
  refine isTrue_chain (thn (ha.run pins s σ H _ I h) fun v s1 ⟨x, H1, I1, r1, q1⟩ => test_link (thn (hb.run pins s1 σ H1 _ I1 q1) fun u s2 ⟨y, H2, I2, r2, q2⟩ =>
    thn (ho pins s2 σ H2 x y v u _ I2 r1 r2 q2) fun e s3 ⟨z, H3, I3, r3, k, ez, q3⟩ => ?_)) hm
  subst ez
  cases r3
  refine wpAny_truthy_bool ?_
  cases k with
  | false =>
    obtain ⟨k', e', q'⟩ := q3
    cases e'
    exact ite_ff ⟨H3, I3, q'⟩
  | true =>
    refine ite_tt (test_link (thn (hc.run pins s3 σ H3 _ I3 q3) fun w' s4 ⟨z', H4, I4, r4, q4⟩ => thn (ho' pins s4 σ H4 y z' u w' _ I4 r2 r4 q4) fun d' s5 ⟨z2, H5, I5, r5, k2, e2, q5⟩ => ?_))
    subst e2
    cases r5
    refine wpAny_truthy_bool ?_
    cases k2 with
    | false =>
      obtain ⟨k', e', q'⟩ := q5
      cases e'
      exact ite_ff ⟨H5, I5, q'⟩
    | true =>
      refine ite_tt (test_last (thn (hd.run pins s5 σ H5 _ I5 q5) fun w2 s6 ⟨z6, H6, I6, r6, q6⟩ => thn (ho'' pins s6 σ H6 z' z6 w' w2 _ I6 r4 r6 q6) fun d2 s7 ⟨z7, H7, I7, r7, k7, e7, q7⟩ => ?_))
      subst e7
      cases r7
      exact wpAny_truthy_bool ⟨H7, I7, q7⟩
end U

namespace R
open PySem L2
section
variable {σ : L2.St} {H : Hp} {Q : VK} {v x y : V} {a b : Int} {K : PySem.W.Frag} {p q : Addr} {xs ys : List V} {s z : Str}
theorem adI (h : Q (.int (a + b)) H) : U.rAdd K (.int a) (.int b) H Q := .inl ⟨a, b, rfl, rfl, h⟩
theorem adS (l : s.length + z.length ≤ sizeLine) (h : Q (.str (s ++ z)) H) : U.rAdd K (.str s) (.str z) H Q := .inr (.inl ⟨s, z, rfl, rfl, l, h⟩)
theorem adL (h1 : H p = some (.lst xs)) (h2 : H q = some (.lst ys)) (l : xs.length + ys.length ≤ sizeLine) (h : ∀ r, H r = none → Q (.ref r) (upd H r (.lst (xs ++ ys)))) : U.rAdd K (.ref p) (.ref q) H Q := .inr (.inr (.inl ⟨p, q, xs, ys, rfl, rfl, h1, h2, l, h⟩))
theorem mlI (c : CMul a b) (h : Q (.int (a * b)) H) : U.rMul (.int a) (.int b) H Q := .inl ⟨a, b, rfl, rfl, c, h⟩
theorem p64 : (2 : Int) ^ 64 = 18446744073709551616 := by decide
theorem mlA (h1 : -18446744073709551616 < a) (h2 : a < 18446744073709551616) (h : Q (.int (a * b)) H) : U.rMul (.int a) (.int b) H Q := mlI (Or.inl ⟨by rw [p64]; exact h1, by rw [p64]; exact h2⟩) h
theorem mlB (h1 : -18446744073709551616 < b) (h2 : b < 18446744073709551616) (h : Q (.int (a * b)) H) : U.rMul (.int a) (.int b) H Q := mlI (Or.inr ⟨by rw [p64]; exact h1, by rw [p64]; exact h2⟩) h
theorem mlW (c : CMulW a b) (h : Q (.int (a * b)) H) : U.rMul (.int a) (.int b) H Q := .inr (.inl ⟨a, b, rfl, rfl, c, h⟩)
theorem mlL (h1 : H p = some (.lst xs)) (k0 : -(2 ^ 63) ≤ b) (k1 : b < 2 ^ 63) (l : xs.length * b.toNat ≤ sizeLine) (h : ∀ r, H r = none → Q (.ref r) (upd H r (.lst (List.replicate b.toNat xs).flatten))) : U.rMul (.ref p) (.int b) H Q := .inr (.inr ⟨p, b, xs, rfl, rfl, h1, k0, k1, l, h⟩)
theorem dvW (c : CDivW a b) (h : Q (.int (a / b)) H) : U.rDiv (.int a) (.int b) H Q := ⟨a, b, rfl, rfl, c, h⟩
theorem cDiv (h : 0 < b) (h2 : b < 4611686018427387904) : CDivW a b := by
  refine wide_div (b := 62) h ?_ (by decide) (by decide)
  have e : (2 : Nat) ^ 62 = 4611686018427387904 := by decide
  rw [e]; omega
theorem pw {d : Int} (h0 : 0 ≤ b) (h1 : b ≤ 1000000) (h2 : a.natAbs < 18446744073709551616) (e : a ^ b.toNat = d) (h : Q (.int d) H) : U.rPow (.int a) (.int b) H Q := ⟨a, b, rfl, rfl, ⟨h0, h1, h2⟩, by show Q (.int (a ^ b.toNat)) H; rw [e]; exact h⟩
theorem pw9 (h : Q (.int 1000000000) H) : U.rPow (.int 10) (.int 9) H Q := pw (d := 1000000000) (by decide) (by decide) (by decide) (by decide) h
theorem pw18 (h : Q (.int 1000000000000000000) H) : U.rPow (.int 10) (.int 18) H Q := pw (d := 1000000000000000000) (by decide) (by decide) (by decide) (by decide) h
theorem pw6 (h : Q (.int 1000000) H) : U.rPow (.int 10) (.int 6) H Q := pw (d := 1000000) (by decide) (by decide) (by decide) (by decide) h
theorem pw8 (h : Q (.int 100000000) H) : U.rPow (.int 10) (.int 8) H Q := pw (d := 100000000) (by decide) (by decide) (by decide) (by decide) h
theorem mdI (c : 0 < b) (h : Q (.int (a % b)) H) : U.rMod (.int a) (.int b) H Q := ⟨a, b, rfl, rfl, c, h⟩
theorem euI (h : Q (.bl (decide (a = b))) H) : U.rEqU K (.int a) (.int b) H Q := .inl (eqI h)
theorem nuI (h : Q (.bl (!decide (a = b))) H) : U.rNeU K (.int a) (.int b) H Q := .inl (neI h)
theorem euS (h : Q (.bl (decide (s = z))) H) : U.rEqU K (.str s) (.str z) H Q := .inl (eqS h)
theorem nuS (h : Q (.bl (!decide (s = z))) H) : U.rNeU K (.str s) (.str z) H Q := .inl (neS h)
theorem euD {d e : PyData} (h1 : Dp K H x d) (h2 : Dp K H y e) (s1 : SeqAt.shaped d = true) (s2 : SeqAt.shaped e = true) (h : Q (.bl (PyData.eqv d e)) H) : U.rEqU K x y H Q := .inr ⟨d, e, h1, h2, s1, s2, h⟩
theorem nuD {d e : PyData} (h1 : Dp K H x d) (h2 : Dp K H y e) (s1 : SeqAt.shaped d = true) (s2 : SeqAt.shaped e = true) (h : Q (.bl (!PyData.eqv d e)) H) : U.rNeU K x y H Q := .inr ⟨d, e, h1, h2, s1, s2, h⟩
theorem lt (h : Q (.bl (decide (a < b))) H) : U.rLt (.int a) (.int b) H Q := ⟨a, b, rfl, rfl, h⟩
theorem le (h : Q (.bl (decide (a ≤ b))) H) : U.rLe (.int a) (.int b) H Q := ⟨a, b, rfl, rfl, h⟩
theorem gt (h : Q (.bl (decide (b < a))) H) : U.rGt (.int a) (.int b) H Q := ⟨a, b, rfl, rfl, h⟩
theorem ge (h : Q (.bl (decide (b ≤ a))) H) : U.rGe (.int a) (.int b) H Q := ⟨a, b, rfl, rfl, h⟩
theorem lnL (h1 : SqL K H p xs) (h : Q (.int xs.length) H) : U.rLen K [.ref p] H Q := .inl ⟨p, xs, rfl, .inl h1, h⟩
theorem lnT (h1 : SqT K H p xs) (h : Q (.int xs.length) H) : U.rLen K [.ref p] H Q := .inl ⟨p, xs, rfl, .inr h1, h⟩
theorem lnS (l : s.length ≤ sizeLine) (h : Q (.int s.length) H) : U.rLen K [.str s] H Q := .inr ⟨s, rfl, l, h⟩
theorem inI (h : Q (.int a) H) : U.rInt [.int a] H Q := .inl (.inl ⟨a, rfl, h⟩)
theorem inB {k : Bool} (h : Q (.int (if k then 1 else 0)) H) : U.rInt [.bl k] H Q := .inl (.inr ⟨k, rfl, h⟩)
theorem abs (h : Q (.int (if a < 0 then -a else a)) H) : U.rAbs [.int a] H Q := ⟨a, rfl, h⟩
theorem max2 (h : Q (.int (if b > a then b else a)) H) : U.rMax2 [.int a, .int b] H Q := ⟨a, b, rfl, h⟩
theorem min2 (h : Q (.int (if b < a then b else a)) H) : U.rMin2 [.int a, .int b] H Q := ⟨a, b, rfl, h⟩
theorem listL (h1 : SqL K H p xs) (h : ∀ l, H l = none → Q (.ref l) (upd H l (.lst xs))) : U.rList K [.ref p] H Q := ⟨p, xs, rfl, .inl h1, h⟩
theorem listT (h1 : SqT K H p xs) (h : ∀ l, H l = none → Q (.ref l) (upd H l (.lst xs))) : U.rList K [.ref p] H Q := ⟨p, xs, rfl, .inr h1, h⟩
theorem tupL (h1 : SqL K H p xs) (h : ∀ l, H l = none → Q (.ref l) (upd H l (.tup xs))) : U.rTup K [.ref p] H Q := ⟨p, xs, rfl, .inl ⟨h1, h⟩⟩
theorem tupT (h1 : SqT K H p xs) (h : Q (.ref p) H) : U.rTup K [.ref p] H Q := ⟨p, xs, rfl, .inr ⟨h1, h⟩⟩
theorem ixuL (h1 : SqL K H p xs) (e : atI xs a = some v) (h : Q v H) : rIx K (.ref p) (.int a) H Q := .inl ⟨p, xs, a, v, rfl, rfl, h1, e, h⟩
theorem ixuT (h1 : SqT K H p xs) (e : atI xs a = some v) (h : Q v H) : rIx K (.ref p) (.int a) H Q := .inr (.inl ⟨p, xs, a, v, rfl, rfl, h1, e, h⟩)
theorem callP {sp : Sp} {n : Nat} {is : List Nat} {E : XK} {tk : TA} (h : tk σ H fun zs H2 => zs.length = n ∧ sp (U.pickV is zs) H2 Q E) : U.tCallP sp n is E tk σ H Q := h
/-! what kind a value is -/
inductive Kn where
  | non | bl | int | str | lst | tup | dic
def Kn.name : Kn → String
  | .non => "NoneType" | .bl => "bool" | .int => "int" | .str => "str" | .lst => "list" | .tup => "tuple" | .dic => "dict"
inductive Pl (K : PySem.W.Frag) (H : Hp) : V → Kn → Prop where
  | non : Pl K H .non .non
  | bl (b : Bool) : Pl K H (.bl b) .bl
  | int (i : Int) : Pl K H (.int i) .int
  | str (s : Str) : Pl K H (.str s) .str
  | lst {a : Addr} {xs : List V} (h : SqL K H a xs) : Pl K H (.ref a) .lst
  | tup {a : Addr} {xs : List V} (h : SqT K H a xs) : Pl K H (.ref a) .tup
  | dic {a : Addr} {kvs : List (Key × V)} (h : H a = some (.dK kvs)) : Pl K H (.ref a) .dic
theorem Pl.ty {n : Kn} (h : Pl K H x n) : TyX K H x (.type n.name) := by
  cases h with
  | non => exact .base .non
  | bl b => exact .base (.bl b)
  | int i => exact .base (.int i)
  | str s => exact .base (.str s)
  | lst h =>
    rcases h with (h | ⟨o, h⟩) | ⟨o, its, n, e, c, _⟩
    · exact .base (.lst h)
    · exact .base (.frz h)
    · exact .kList e c
  | tup h =>
    rcases h with (h | ⟨o, h⟩) | ⟨o, its, n, e, c, _⟩
    · exact .base (.tup h)
    · exact .fTuple h
    · exact .kTuple e c
  | dic h => exact .base (.dK h)
def Kn.isI : Kn → Bool | .int => true | .bl => true | _ => false
def Kn.isB : Kn → Bool | .bl => true | _ => false
def Kn.isS : Kn → Bool | .str => true | _ => false
def Kn.isL : Kn → Bool | .lst => true | _ => false
def Kn.isT : Kn → Bool | .tup => true | _ => false
def Kn.isD : Kn → Bool | .dic => true | _ => false
theorem kI (n : Kn) : kitB n.name "int" = some n.isI := by cases n <;> decide +kernel
theorem kB (n : Kn) : kitB n.name "bool" = some n.isB := by cases n <;> decide +kernel
theorem kS (n : Kn) : kitB n.name "str" = some n.isS := by cases n <;> decide +kernel
theorem kL (n : Kn) : kitB n.name "list" = some n.isL := by cases n <;> decide +kernel
theorem kT (n : Kn) : kitB n.name "tuple" = some n.isT := by cases n <;> decide +kernel
theorem kD (n : Kn) : kitB n.name "dict" = some n.isD := by cases n <;> decide +kernel
theorem isi {n : Kn} {m : String} {r r' : Bool} (h1 : Pl K H x n) (e : kitB n.name m = some r) (e2 : r = r') (h : Q (.bl r') H) : rIsi K [x, .ty m] H Q := by
  subst e2
  exact ⟨x, .ty m, .type n.name, .type m, r, rfl, .ty m, h1.ty, kit_ty e, h⟩
theorem isiI {n : Kn} (r : Bool) (h1 : Pl K H x n) (e : n.isI = r) (h : Q (.bl r) H) : rIsi K [x, .ty "int"] H Q := isi h1 (kI n) e h
theorem isiB {n : Kn} (r : Bool) (h1 : Pl K H x n) (e : n.isB = r) (h : Q (.bl r) H) : rIsi K [x, .ty "bool"] H Q := isi h1 (kB n) e h
theorem isiS {n : Kn} (r : Bool) (h1 : Pl K H x n) (e : n.isS = r) (h : Q (.bl r) H) : rIsi K [x, .ty "str"] H Q := isi h1 (kS n) e h
theorem isiL {n : Kn} (r : Bool) (h1 : Pl K H x n) (e : n.isL = r) (h : Q (.bl r) H) : rIsi K [x, .ty "list"] H Q := isi h1 (kL n) e h
theorem isiT {n : Kn} (r : Bool) (h1 : Pl K H x n) (e : n.isT = r) (h : Q (.bl r) H) : rIsi K [x, .ty "tuple"] H Q := isi h1 (kT n) e h
theorem isiD {n : Kn} (r : Bool) (h1 : Pl K H x n) (e : n.isD = r) (h : Q (.bl r) H) : rIsi K [x, .ty "dict"] H Q := isi h1 (kD n) e h
/-- isinstance(x, (list, tuple)) -/
theorem isiLT {t : Addr} {n : Kn} (r : Bool) (ht : H t = some (.tup [.ty "list", .ty "tuple"])) (h1 : Pl K H x n) (e : (n.isL || n.isT) = r) (h : Q (.bl r) H) : rIsiT K [x, .ref t] H Q := by
  subst e
  refine ⟨x, t, _, .type n.name, [.type "list", .type "tuple"], n.isL || n.isT, rfl, ht, .cons (.ty _) (.cons (.ty _) .nil), h1.ty, ?_, h⟩
  refine kitAny_cons (kit_ty (kL n)) (fun z => ?_) (fun z => by rw [z]; rfl)
  rw [z]
  refine kitAny_cons (kit_ty (kT n)) (fun z => ?_) (fun z => by rw [z]; rfl)
  rw [z]
  exact kitAny_nil
/-! loops -/
theorem forL {te : TE} {g : TG} {tb : TS} {D : Ends} (h : te σ H fun x H1 => ∃ a xs, x = .ref a ∧ SqL K H1 a xs ∧ ∃ Pv : Nat → L2.St → Hp → Prop, Pv 0 σ H1 ∧ (∀ i σ H, i ≤ xs.length → Pv i σ H → SqL K H a xs) ∧
    (∀ i x σ H, xs[i]? = some x → Pv i σ H → g x σ H fun σ2 H2 => tb { D with nx := Pv (i + 1), ct := Pv (i + 1), bk := D.nx } σ2 H2) ∧ ∀ σ H, Pv xs.length σ H → D.nx σ H)
    (mono : ∀ Q Q' : VK, (∀ v H, Q v H → Q' v H) → te σ H Q → te σ H Q') : tFor (U.iSeq K te) g tb D σ H :=
  Or.inl (mono _ _ (fun x H1 ⟨a, xs, e, hq, Pv, h0, hl, hs, hd⟩ => ⟨a, e, ⟨xs, hq⟩, for_list Pv h0 hl hs hd⟩) h)
/-- over a name's list -/
theorem forLV {i : Nat} {g : TG} {tb : TS} {D : Ends} {a : Addr} (hv : σ[i]? = some (some (.ref a))) (hq : SqL K H a xs) (Pv : Nat → L2.St → Hp → Prop) (h0 : Pv 0 σ H) (hl : ∀ i σ H, i ≤ xs.length → Pv i σ H → SqL K H a xs)
    (hs : ∀ i x σ H, xs[i]? = some x → Pv i σ H → g x σ H fun σ2 H2 => tb { D with nx := Pv (i + 1), ct := Pv (i + 1), bk := D.nx } σ2 H2) (hd : ∀ σ H, Pv xs.length σ H → D.nx σ H) : tFor (U.iSeq K (tVar i)) g tb D σ H :=
  Or.inl ⟨_, hv, a, rfl, ⟨xs, hq⟩, for_list Pv h0 hl hs hd⟩
theorem forTV {i : Nat} {g : TG} {tb : TS} {D : Ends} {a : Addr} (hv : σ[i]? = some (some (.ref a))) (hq : SqT K H a xs) (Pv : Nat → L2.St → Hp → Prop) (h0 : Pv 0 σ H) (hl : ∀ i σ H, i ≤ xs.length → Pv i σ H → SqT K H a xs)
    (hs : ∀ i x σ H, xs[i]? = some x → Pv i σ H → g x σ H fun σ2 H2 => tb { D with nx := Pv (i + 1), ct := Pv (i + 1), bk := D.nx } σ2 H2) (hd : ∀ σ H, Pv xs.length σ H → D.nx σ H) : tFor (U.iSeq K (tVar i)) g tb D σ H :=
  Or.inr (Or.inl ⟨_, hv, a, rfl, ⟨xs, hq⟩, for_tup Pv h0 hl hs hd⟩)
/-- a list or a tuple -/
def Sq (K : PySem.W.Frag) (H : Hp) (a : Addr) (xs : List V) : Prop := SqL K H a xs ∨ SqT K H a xs
/-- which of the two it is -/
def SqK (K : PySem.W.Frag) (l : Bool) (H : Hp) (a : Addr) (xs : List V) : Prop := if l = true then SqL K H a xs else SqT K H a xs
theorem SqK.sq {l : Bool} (h : SqK K l H p xs) : Sq K H p xs := by
  cases l with
  | true => exact .inl h
  | false => exact .inr h
theorem SqK.pl {l : Bool} (h : SqK K l H p xs) : Pl K H (.ref p) (if l then .lst else .tup) := by
  cases l with
  | true => exact .lst h
  | false => exact .tup h
theorem forSV {l : Bool} {i : Nat} {g : TG} {tb : TS} {D : Ends} {a : Addr} (hv : σ[i]? = some (some (.ref a))) (hq : SqK K l H a xs) (Pv : Nat → L2.St → Hp → Prop) (h0 : Pv 0 σ H) (hl : ∀ i σ H, i ≤ xs.length → Pv i σ H → SqK K l H a xs)
    (hs : ∀ i x σ H, xs[i]? = some x → Pv i σ H → g x σ H fun σ2 H2 => tb { D with nx := Pv (i + 1), ct := Pv (i + 1), bk := D.nx } σ2 H2) (hd : ∀ σ H, Pv xs.length σ H → D.nx σ H) : tFor (U.iSeq K (tVar i)) g tb D σ H := by
  cases l with
  | true => exact forLV hv hq Pv h0 hl hs hd
  | false => exact forTV hv hq Pv h0 hl hs hd
theorem walk_enT : Walk (U.ItT K p) xs.length (fun H => SqT K H p xs) (YPair (fun i => some (.int (i : Nat))) (fun i => xs[i]?)) := by
  refine ⟨fun i _ hi q => ⟨xs, xs[i], q, by simp [hi]⟩, fun _ q => ⟨xs, q, Nat.le_refl _⟩, fun i H v H' _ q y => ?_⟩
  obtain ⟨T, x, h1, h2, h3, h4⟩ := y
  exact ⟨T, .int (i : Nat), x, h1, h2, h3, rfl, h4 xs q⟩
/-- for j, x in enumerate(name) -/
theorem forEn {l : Bool} {i : Nat} {g : TG} {tb : TS} {D : Ends} {a : Addr} (hv : σ[i]? = some (some (.ref a))) (hq : SqK K l H a xs) (Pv : Nat → L2.St → Hp → Prop) (h0 : Pv 0 σ H) (hl : ∀ i σ H, i ≤ xs.length → Pv i σ H → SqK K l H a xs)
    (hs : ∀ i x T σ H, xs[i]? = some x → Pv i σ H → H T = none → g (.ref T) σ (upd H T (.tup [.int (i : Nat), x])) fun σ2 H2 => tb { D with nx := Pv (i + 1), ct := Pv (i + 1), bk := D.nx } σ2 H2) (hd : ∀ σ H, Pv xs.length σ H → D.nx σ H) :
    tFor (U.iEn K (tCons (tVar i) tNil)) g tb D σ H := by
  refine ⟨_, hv, a, xs, rfl, ?_⟩
  cases l with
  | true =>
    refine .inl ⟨hq, for_it walk_enum Pv h0 hl (fun j v σ' H1 H2 hj p y => ?_) hd⟩
    obtain ⟨T, x, z, rfl, hT, rfl, e1, e2⟩ := y
    cases e1
    exact hs j z T σ' H1 e2 p hT
  | false =>
    refine .inr ⟨hq, for_it walk_enT Pv h0 hl (fun j v σ' H1 H2 hj p y => ?_) hd⟩
    obtain ⟨T, x, z, rfl, hT, rfl, e1, e2⟩ := y
    cases e1
    exact hs j z T σ' H1 e2 p hT
theorem forR1 {ta : TE} {g : TG} {tb : TS} {D : Ends} (h : ta σ H fun x H1 => ∃ j : Int, x = .int j ∧ -(2 ^ 62) ≤ j ∧ j < 2 ^ 62 ∧ ∃ Pv : Nat → L2.St → Hp → Prop, Pv 0 σ H1 ∧
    (∀ i σ H, i < j.toNat → Pv i σ H → g (.int (i : Nat)) σ H fun σ2 H2 => tb { D with nx := Pv (i + 1), ct := Pv (i + 1), bk := D.nx } σ2 H2) ∧ ∀ σ H, Pv j.toNat σ H → D.nx σ H)
    (mono : ∀ Q Q' : VK, (∀ v H, Q v H → Q' v H) → ta σ H Q → ta σ H Q') : tFor (iRng1 (tCons ta tNil)) g tb D σ H :=
  mono _ _ (fun x H1 ⟨j, e, b1, b2, Pv, h0, hs, hd⟩ => ⟨j, by rw [e], b1, b2, for_range Pv h0 (fun i σ H hi p => by
    have z : (0 : Int) + ((i : Nat) : Int) = ((i : Nat) : Int) := Int.zero_add _
    rw [z]; exact hs i σ H hi p) hd⟩) h
end
end R
namespace R
open PySem L2
section
variable {H : Hp} {K : PySem.W.Frag} {a q : Addr} {o : HO} {xs : List V} {x : V}
theorem rdOld {u : HO} (nq : H q = none) (h : Rd H a u) : Rd (upd H q o) a u := by
  rcases h with h | ⟨z, h⟩
  · exact .inl (updOld nq h)
  · exact .inr ⟨z, updOld nq h⟩
theorem rdNe {u : HO} (n : a ≠ q) (h : Rd H a u) : Rd (upd H q o) a u := by
  rcases h with h | ⟨z, h⟩
  · exact .inl (updNe n h)
  · exact .inr ⟨z, updNe n h⟩
theorem sqlOld (nq : H q = none) (h : SqL K H a xs) : SqL K (upd H q o) a xs := by
  rcases h with h | h
  · exact .inl (rdOld nq h)
  · exact .inr h
theorem sqtOld (nq : H q = none) (h : SqT K H a xs) : SqT K (upd H q o) a xs := by
  rcases h with h | h
  · exact .inl (rdOld nq h)
  · exact .inr h
theorem sqlNe (n : a ≠ q) (h : SqL K H a xs) : SqL K (upd H q o) a xs := by
  rcases h with h | h
  · exact .inl (rdNe n h)
  · exact .inr h
theorem sqtNe (n : a ≠ q) (h : SqT K H a xs) : SqT K (upd H q o) a xs := by
  rcases h with h | h
  · exact .inl (rdNe n h)
  · exact .inr h
/-- what stood stands -/
def Ex (H H' : Hp) : Prop := ∀ b o, H b = some o → H' b = some o
theorem Ex.refl (H : Hp) : Ex H H := fun _ _ h => h
theorem Ex.tr {H1 H2 H3 : Hp} (e : Ex H1 H2) (f : Ex H2 H3) : Ex H1 H3 := fun b o h => f b o (e b o h)
theorem Ex.new (n : H q = none) : Ex H (upd H q o) := fun _ _ h => updOld n h
theorem Ex.free {H' : Hp} (e : Ex H H') (n : H' q = none) : H q = none := by
  cases h : H q with
  | none => rfl
  | some o => rw [e q o h] at n; cases n
/-- an object that H does not know is changed -/
theorem Ex.mut {H' : Hp} (e : Ex H H') (n : H q = none) : Ex H (upd H' q o) := fun b u h => by
  rw [upd_ne (ne_of_none h n)]; exact e b u h
theorem Ex.rd {H' : Hp} {u : HO} (e : Ex H H') (h : Rd H a u) : Rd H' a u := by
  rcases h with h | ⟨z, h⟩
  · exact .inl (e _ _ h)
  · exact .inr ⟨z, e _ _ h⟩
theorem Ex.l {H' : Hp} (e : Ex H H') (h : SqL K H a xs) : SqL K H' a xs := by
  rcases h with h | h
  · exact .inl (e.rd h)
  · exact .inr h
theorem Ex.t {H' : Hp} (e : Ex H H') (h : SqT K H a xs) : SqT K H' a xs := by
  rcases h with h | h
  · exact .inl (e.rd h)
  · exact .inr h
theorem Ex.k {H' : Hp} {l : Bool} (e : Ex H H') (h : SqK K l H a xs) : SqK K l H' a xs := by
  cases l with
  | true => exact e.l h
  | false => exact e.t h
theorem Ex.pl {H' : Hp} {n : Kn} (e : Ex H H') (h : Pl K H x n) : Pl K H' x n := by
  cases h with
  | non => exact .non
  | bl b => exact .bl b
  | int i => exact .int i
  | str s => exact .str s
  | lst h => exact .lst (e.l h)
  | tup h => exact .tup (e.t h)
  | dic h => exact .dic (e _ _ h)
end
end R
namespace R
theorem iteNT {A B : Prop} (h : A) : if (!false) = true then A else B := h
theorem iteNF {A B : Prop} (h : B) : if (!true) = true then A else B := h
end R
namespace R
open PySem L2
section
variable {σ : L2.St} {H : Hp} {Q : VK} {v x y z : V} {a b d : Int} {K : PySem.W.Frag} {p : Addr} {xs : List V} {D : Ends}
theorem ipA (h : Q (.int (a + b)) H) : U.rIpAdd (.int a) (.int b) H Q := .inl ⟨a, b, rfl, rfl, h⟩
theorem ipS {s u : Str} (l : s.length + u.length ≤ sizeLine) (h : Q (.str (s ++ u)) H) : U.rIpAdd (.str s) (.str u) H Q := .inr ⟨s, u, rfl, rfl, l, h⟩
theorem par3 {i j l : Nat} {ta : TA} (h : ta σ H fun vs H1 => ∃ u v w, vs = [u, v, w] ∧ D.nx (((σ.set i (some u)).set j (some v)).set l (some w)) H1) : tPar3 i j l ta D σ H := h
theorem exVs3 {P : V → V → V → Prop} (q : P x y z) : ∃ u v w, ([x, y, z] : List V) = [u, v, w] ∧ P u v w := ⟨x, y, z, rfl, q⟩
/-- an item of a menu of ints -/
theorem menu {ns : List Int} (P : Int → Prop) (h : SqL K H p xs) (e : xs = ns.map V.int) (d0 : 0 ≤ d) (d1 : d < (ns.length : Int)) (hp : ∀ n ∈ ns, P n) (q : ∀ n, P n → Q (.int n) H) : rIx K (.ref p) (.int d) H Q := by
  subst e
  obtain ⟨j, rfl⟩ : ∃ j : Nat, d = (j : Int) := ⟨d.toNat, by omega⟩
  have hi : j < ns.length := by omega
  refine ixuL h (v := .int ns[j]) (atI_nat ?_) (q _ (hp _ (List.getElem_mem hi)))
  rw [List.getElem?_map, List.getElem?_eq_getElem hi]
  rfl
end
end R
namespace R
open PySem L2
section
variable {H : Hp} {x : V} {p : Addr}
/-- what stood stands but at p -/
def ExB (p : Addr) (H H' : Hp) : Prop := ∀ b o, b ≠ p → H b = some o → H' b = some o
theorem ExB.refl : ExB p H H := fun _ _ _ h => h
theorem ExB.tr {H1 H2 : Hp} (e : ExB p H H1) (f : ExB p H1 H2) : ExB p H H2 := fun b o n h => f b o n (e b o n h)
theorem ExB.at {o : HO} : ExB p H (upd H p o) := fun b u n h => by rw [upd_ne n]; exact h
theorem ExB.new {q : Addr} {o : HO} (n : H q = none) : ExB p H (upd H q o) := fun b u _ h => updOld n h
theorem Ex.xb {H1 : Hp} (e : Ex H H1) : ExB p H H1 := fun b o _ h => e b o h
theorem ExB.mut {H1 : Hp} {q : Addr} {o : HO} (e : ExB p H H1) (n : H q = none) : ExB p H (upd H1 q o) := fun b u m h => by
  rw [upd_ne (ne_of_none h n)]; exact e b u m h
theorem drop_cons {α : Type} {l : List α} {i : Nat} {x : α} (h : l[i]? = some x) : l.drop i = x :: l.drop (i + 1) := by
  obtain ⟨hi, e⟩ := List.getElem?_eq_some_iff.mp h
  rw [List.drop_eq_getElem_cons hi, e]
theorem map_at {ns : List Int} {i : Nat} (h : (ns.map V.int)[i]? = some x) : ∃ n, ns[i]? = some n ∧ x = .int n := by
  rw [List.getElem?_map] at h
  cases e : ns[i]? with
  | none => rw [e] at h; cases h
  | some n => rw [e] at h; exact ⟨n, rfl, (Option.some.inj h).symm⟩
end
end R
namespace R
open PySem L2
section
variable {σ : L2.St} {H H' : Hp} {Q : VK} {v x y z : V} {a b d : Int} {K : PySem.W.Frag} {p q t : Addr} {xs ys : List V} {D : Ends} {o : HO}
/-- what is to be shown of a loop over range(j) -/
def RngP (g : TG) (tb : TS) (D : Ends) (σ : L2.St) : VK := fun x H1 => ∃ j : Int, [x] = [V.int j] ∧ -(2 ^ 62) ≤ j ∧ j < 2 ^ 62 ∧ ∃ W : Nat → Nat → L2.St → Hp → Prop, (∃ m, W 0 m σ H1) ∧ ∀ i m σ H, W i m σ H →
  ((Itr 0 j.toNat).stop i H ∧ D.nx σ H) ∨ ((Itr 0 j.toNat).go i H ∧ ∃ N : L2.St → Hp → Prop, (∀ σ' H', N σ' H' → ∃ m', m' < m ∧ W (i + 1) m' σ' H') ∧ ∀ x H', (Itr 0 j.toNat).yld i H x H' → g x σ H' fun σ2 H2 => tb { D with nx := N, ct := N, bk := D.nx } σ2 H2)
theorem forR {ta : TE} {g : TG} {tb : TS} (h : ta σ H (RngP g tb D σ)) : tFor (iRng1 (tCons ta tNil)) g tb D σ H := h
theorem p62 : (2 : Int) ^ 62 = 4611686018427387904 := by decide
theorem rngP {g : TG} {tb : TS} (b1 : -4611686018427387904 ≤ a) (b2 : a < 4611686018427387904) (Pv : Nat → L2.St → Hp → Prop) (h0 : Pv 0 σ H)
    (hs : ∀ (i : Nat) σ H, (i : Int) < a → Pv i σ H → g (.int (i : Nat)) σ H fun σ2 H2 => tb { D with nx := Pv (i + 1), ct := Pv (i + 1), bk := D.nx } σ2 H2) (hd : ∀ σ H, Pv a.toNat σ H → D.nx σ H) : RngP g tb D σ (.int a) H :=
  ⟨a, rfl, by rw [p62]; exact b1, by rw [p62]; exact b2, for_range Pv h0 (fun i σ H hi p => by
    have z : (0 : Int) + ((i : Nat) : Int) = ((i : Nat) : Int) := Int.zero_add _
    rw [z]; exact hs i σ H (by omega) p) hd⟩
/-- a tuple is no list -/
theorem sqtB (e : ExB p H H') (hp : H p = some (.lst ys)) (h : SqT K H t xs) : SqT K H' t xs := by
  rcases h with (h | ⟨z, h⟩) | h
  · exact .inl (.inl (e _ _ (fun q => by subst q; rw [hp] at h; cases h) h))
  · exact .inl (.inr ⟨z, e _ _ (fun q => by subst q; rw [hp] at h; cases h) h⟩)
  · exact .inr h
theorem ExB.l (e : ExB p H H') (n : q ≠ p) (h : SqL K H q xs) : SqL K H' q xs := by
  rcases h with (h | ⟨z, h⟩) | h
  · exact .inl (.inl (e _ _ n h))
  · exact .inl (.inr ⟨z, e _ _ n h⟩)
  · exact .inr h
theorem ExB.free (e : ExB p H H') (n : q ≠ p) (h : H' q = none) : H q = none := by
  cases h2 : H q with
  | none => rfl
  | some o => rw [e q o n h2] at h; cases h
/-- p is new since H0 -/
theorem Ex.trB {H0 : Hp} (e : Ex H0 H) (n : H0 p = none) (f : ExB p H H') : Ex H0 H' := fun b o h => f b o (ne_of_none h n) (e b o h)
theorem ne_of_some (h : H p = some o) (n : H q = none) : q ≠ p := fun e => by subst e; rw [h] at n; cases n
end
end R
namespace R
open PySem L2
theorem tyLA {K : PySem.W.Frag} {H : Hp} {p : Addr} {xs : List V} {B : Prop} (h : SqL K H p xs) (q : B) : tyV K "list" (.ref p) H ∧ B := ⟨tyL h, q⟩
end R
namespace R
theorem iteTr {c : Bool} {A B : Prop} (e : c = true) (h : A) : if c = true then A else B := by rw [if_pos e]; exact h
theorem iteFr {c : Bool} {A B : Prop} (e : c = false) (h : B) : if c = true then A else B := by rw [if_neg (by rw [e]; decide)]; exact h
end R
namespace R
open PySem L2
theorem listK {K : PySem.W.Frag} {l : Bool} {H : Hp} {p : Addr} {xs : List V} {Q : VK} (h1 : SqK K l H p xs) (h : ∀ l, H l = none → Q (.ref l) (upd H l (.lst xs))) : U.rList K [.ref p] H Q := by
  cases l with
  | true => exact listL h1 h
  | false => exact listT h1 h
end R
namespace R
open PySem L2
section
variable {σ : L2.St} {H : Hp} {K : PySem.W.Frag} {a b : Addr} {xs ys : List V} {D : Ends} {g : TG} {tb : TS}
/-- for x, y in zip(name, name) -/
theorem forZip {l : Bool} {i j : Nat} (hv : σ[i]? = some (some (.ref a))) (hv2 : σ[j]? = some (some (.ref b))) (h1 : SqK K l H a xs) (h2 : SqK K l H b ys) (hl : xs.length = ys.length) (Pv : Nat → L2.St → Hp → Prop) (h0 : Pv 0 σ H) (hq : ∀ i σ H, Pv i σ H → SqK K l H a xs ∧ SqK K l H b ys)
    (hs : ∀ (i : Nat) (x y : V) (T : Addr) (σ : L2.St) (H : Hp), xs[i]? = some x → ys[i]? = some y → Pv i σ H → H T = none → g (.ref T) σ (upd H T (.tup [x, y])) fun σ2 H2 => tb { D with nx := Pv (i + 1), ct := Pv (i + 1), bk := D.nx } σ2 H2) (hd : ∀ σ H, Pv xs.length σ H → D.nx σ H) :
    tFor (RZ.iZipA K (tCons (tVar i) (tCons (tVar j) tNil))) g tb D σ H := by
  refine ⟨_, hv, _, hv2, a, b, xs, ys, rfl, ?_⟩
  cases l with
  | true => exact .inl ⟨h1, h2, RZ.for_zipL hl Pv h0 hq hs hd⟩
  | false => exact .inr ⟨h1, h2, RZ.for_zipT hl Pv h0 hq hs hd⟩
theorem lnK {l : Bool} {Q : VK} (h1 : SqK K l H a xs) (h : Q (.int xs.length) H) : U.rLen K [.ref a] H Q := by
  cases l with
  | true => exact lnL h1 h
  | false => exact lnT h1 h
end
end R
namespace R
open PySem L2
section
variable {σ : L2.St} {H : Hp} {K : PySem.W.Frag} {a b : Addr} {xs ys : List V} {D : Ends} {g : TG} {tb : TS} {te : TE}
/-- what is to be shown of a loop over a tuple, over a list -/
def TupP (K : PySem.W.Frag) (g : TG) (tb : TS) (D : Ends) (σ : L2.St) : VK := fun x H1 => ∃ a, x = .ref a ∧ (∃ xs, SqT K H1 a xs) ∧ ∃ W : Nat → Nat → L2.St → Hp → Prop, (∃ m, W 0 m σ H1) ∧ ∀ i m σ H, W i m σ H →
  ((Itt K a).stop i H ∧ D.nx σ H) ∨ ((Itt K a).go i H ∧ ∃ N : L2.St → Hp → Prop, (∀ σ' H', N σ' H' → ∃ m', m' < m ∧ W (i + 1) m' σ' H') ∧ ∀ x H', (Itt K a).yld i H x H' → g x σ H' fun σ2 H2 => tb { D with nx := N, ct := N, bk := D.nx } σ2 H2)
def LstP (K : PySem.W.Frag) (g : TG) (tb : TS) (D : Ends) (σ : L2.St) : VK := fun x H1 => ∃ a, x = .ref a ∧ (∃ xs, SqL K H1 a xs) ∧ ∃ W : Nat → Nat → L2.St → Hp → Prop, (∃ m, W 0 m σ H1) ∧ ∀ i m σ H, W i m σ H →
  ((Itl K a).stop i H ∧ D.nx σ H) ∨ ((Itl K a).go i H ∧ ∃ N : L2.St → Hp → Prop, (∀ σ' H', N σ' H' → ∃ m', m' < m ∧ W (i + 1) m' σ' H') ∧ ∀ x H', (Itl K a).yld i H x H' → g x σ H' fun σ2 H2 => tb { D with nx := N, ct := N, bk := D.nx } σ2 H2)
theorem forTe (h : te σ H (TupP K g tb D σ)) : tFor (U.iSeq K te) g tb D σ H := .inr (.inl h)
theorem forLe (h : te σ H (LstP K g tb D σ)) : tFor (U.iSeq K te) g tb D σ H := .inl h
theorem tupP (hq : SqT K H a xs) (Pv : Nat → L2.St → Hp → Prop) (h0 : Pv 0 σ H) (hl : ∀ i σ H, i ≤ xs.length → Pv i σ H → SqT K H a xs)
    (hs : ∀ i x σ H, xs[i]? = some x → Pv i σ H → g x σ H fun σ2 H2 => tb { D with nx := Pv (i + 1), ct := Pv (i + 1), bk := D.nx } σ2 H2) (hd : ∀ σ H, Pv xs.length σ H → D.nx σ H) : TupP K g tb D σ (.ref a) H :=
  ⟨a, rfl, ⟨xs, hq⟩, for_tup Pv h0 hl hs hd⟩
theorem lstP (hq : SqL K H a xs) (Pv : Nat → L2.St → Hp → Prop) (h0 : Pv 0 σ H) (hl : ∀ i σ H, i ≤ xs.length → Pv i σ H → SqL K H a xs)
    (hs : ∀ i x σ H, xs[i]? = some x → Pv i σ H → g x σ H fun σ2 H2 => tb { D with nx := Pv (i + 1), ct := Pv (i + 1), bk := D.nx } σ2 H2) (hd : ∀ σ H, Pv xs.length σ H → D.nx σ H) : LstP K g tb D σ (.ref a) H :=
  ⟨a, rfl, ⟨xs, hq⟩, for_list Pv h0 hl hs hd⟩
end
end R
namespace R
open PySem L2
section
variable {σ σ2 : L2.St} {H : Hp} {K : PySem.W.Frag} {a b : Addr} {xs ys : List V} {g : TG} {tt : TT} {te : TE} {Q : VK} {vs : List Nat}
/-- [e for x in name] over a list or a tuple -/
theorem lcV {l : Bool} {i : Nat} (hv : σ[i]? = some (some (.ref a))) (hq : SqK K l H a xs) (Pv : Addr → Nat → Hp → Prop) (h0 : ∀ D, H D = none → Pv D 0 (upd H D (.lst []))) (hl : ∀ D i H, Pv D i H → SqK K l H a xs)
    (hs : ∀ D i x H, xs[i]? = some x → Pv D i H → g x (wipe σ vs) H fun σ2 H2 => wipe σ2 vs = wipe σ vs ∧ tt σ2 H2 fun b H3 =>
      if b = true then te σ2 H3 fun y H4 => ∃ acc, H4 D = some (.lst acc) ∧ acc.length < sizeLine ∧ Pv D (i + 1) (upd H4 D (.lst (acc ++ [y]))) else Pv D (i + 1) H3)
    (hd : ∀ D H, Pv D xs.length H → Q (.ref D) H) : tLc (U.iSeq K (tVar i)) g tt te vs σ H Q := by
  have key : ∀ J : It, (∀ H, ∀ D i, Pv D i H → i < xs.length → J.go i H) → (∀ H D, Pv D xs.length H → J.stop xs.length H) → (∀ D i H x H', Pv D i H → i < xs.length → J.yld i H x H' → xs[i]? = some x ∧ H' = H) →
      ∀ D, H D = none → ∃ W : Nat → Nat → Hp → Prop, (∃ m, W 0 m (upd H D (.lst []))) ∧ ∀ i m H, W i m H →
        (J.stop i H ∧ Q (.ref D) H) ∨ (J.go i H ∧ ∃ Nx : Hp → Prop, (∀ H', Nx H' → ∃ m', m' < m ∧ W (i + 1) m' H') ∧ ∀ x H', J.yld i H x H' → g x (wipe σ vs) H' fun σ2 H2 => wipe σ2 vs = wipe σ vs ∧ tt σ2 H2 fun b H3 =>
          if b = true then te σ2 H3 fun y H4 => ∃ acc, H4 D = some (.lst acc) ∧ acc.length < sizeLine ∧ Nx (upd H4 D (.lst (acc ++ [y]))) else Nx H3) := by
    intro J j1 j2 j3 D nD
    refine ⟨fun i m H => m = xs.length - i ∧ i ≤ xs.length ∧ Pv D i H, ⟨xs.length, by simp, Nat.zero_le _, h0 D nD⟩, ?_⟩
    rintro i m H ⟨rfl, hi, p⟩
    by_cases hlt : i < xs.length
    · refine .inr ⟨j1 H D i p hlt, Pv D (i + 1), fun H' p' => ⟨xs.length - (i + 1), by omega, rfl, hlt, p'⟩, fun x H' y => ?_⟩
      obtain ⟨hx, rfl⟩ := j3 D i H x H' p hlt y
      exact hs D i x H' hx p
    · have e : i = xs.length := by omega
      subst e
      exact .inl ⟨j2 H D p, hd D H p⟩
  cases l with
  | true =>
    refine .inl ⟨_, hv, a, rfl, ⟨xs, hq⟩, key (Itl K a) (fun H D i p hlt => ?_) (fun H D p => ?_) (fun D i H x H' p hlt y => ?_)⟩
    · exact ⟨xs, xs[i], hl D i H p, List.getElem?_eq_getElem hlt⟩
    · exact ⟨xs, hl D _ H p, Nat.le_refl _⟩
    · exact ⟨y.2 xs (hl D i H p), y.1⟩
  | false =>
    refine .inr (.inl ⟨_, hv, a, rfl, ⟨xs, hq⟩, key (Itt K a) (fun H D i p hlt => ?_) (fun H D p => ?_) (fun D i H x H' p hlt y => ?_)⟩)
    · exact ⟨xs, xs[i], hl D i H p, List.getElem?_eq_getElem hlt⟩
    · exact ⟨xs, hl D _ H p, Nat.le_refl _⟩
    · exact ⟨y.2 xs (hl D i H p), y.1⟩
theorem wip {P : Prop} (h : wipe σ2 vs = wipe σ vs) (q : P) : wipe σ2 vs = wipe σ vs ∧ P := ⟨h, q⟩
theorem yes {Q : Bool → Hp → Prop} (q : Q true H) : tYes σ H Q := q
theorem lcAdd {y : V} {P : Hp → Prop} (h : H a = some (.lst xs)) (l : xs.length < sizeLine) (q : P (upd H a (.lst (xs ++ [y])))) : ∃ acc, H a = some (.lst acc) ∧ acc.length < sizeLine ∧ P (upd H a (.lst (acc ++ [y]))) := ⟨xs, h, l, q⟩
end
end R
namespace R
open PySem L2
section
variable {σ : L2.St} {H : Hp} {K : PySem.W.Frag} {a b : Addr} {xs ys : List V} {g : TG} {tt : TT} {te te2 : TE} {Q : VK} {vs : List Nat} {j : Int}
/-- what is to be shown of a comprehension over J -/
def LcP (J : It) (g : TG) (tt : TT) (te : TE) (vs : List Nat) (Q : VK) (σ : L2.St) (H1 : Hp) : Prop := ∀ D, H1 D = none → ∃ W : Nat → Nat → Hp → Prop, (∃ m, W 0 m (upd H1 D (.lst []))) ∧ ∀ i m H, W i m H →
  (J.stop i H ∧ Q (.ref D) H) ∨ (J.go i H ∧ ∃ Nx : Hp → Prop, (∀ H', Nx H' → ∃ m', m' < m ∧ W (i + 1) m' H') ∧ ∀ x H', J.yld i H x H' → g x (wipe σ vs) H' fun σ2 H2 => wipe σ2 vs = wipe σ vs ∧ tt σ2 H2 fun b H3 =>
    if b = true then te σ2 H3 fun y H4 => ∃ acc, H4 D = some (.lst acc) ∧ acc.length < sizeLine ∧ Nx (upd H4 D (.lst (acc ++ [y]))) else Nx H3)
theorem lcP_mk {J : It} (n : Nat) (Pv : Addr → Nat → Hp → Prop) (h0 : ∀ D, H D = none → Pv D 0 (upd H D (.lst []))) (j1 : ∀ D i H, Pv D i H → i < n → J.go i H) (j2 : ∀ D H, Pv D n H → J.stop n H)
    (j3 : ∀ D i H x H', Pv D i H → i < n → J.yld i H x H' → g x (wipe σ vs) H' fun σ2 H2 => wipe σ2 vs = wipe σ vs ∧ tt σ2 H2 fun b H3 =>
      if b = true then te σ2 H3 fun y H4 => ∃ acc, H4 D = some (.lst acc) ∧ acc.length < sizeLine ∧ Pv D (i + 1) (upd H4 D (.lst (acc ++ [y]))) else Pv D (i + 1) H3)
    (hd : ∀ D H, Pv D n H → Q (.ref D) H) : LcP J g tt te vs Q σ H := by
  intro D nD
  refine ⟨fun i m H => m = n - i ∧ i ≤ n ∧ Pv D i H, ⟨n, by simp, Nat.zero_le _, h0 D nD⟩, ?_⟩
  rintro i m H ⟨rfl, hi, p⟩
  by_cases hlt : i < n
  · exact .inr ⟨j1 D i H p hlt, Pv D (i + 1), fun H' p' => ⟨n - (i + 1), by omega, rfl, hlt, p'⟩, fun x H' y => j3 D i H x H' p hlt y⟩
  · have e : i = n := by omega
    subst e
    exact .inl ⟨j2 D H p, hd D H p⟩
def LcLP (K : PySem.W.Frag) (g : TG) (tt : TT) (te : TE) (vs : List Nat) (Q : VK) (σ : L2.St) : VK := fun x H1 => ∃ a, x = .ref a ∧ (∃ xs, SqL K H1 a xs) ∧ LcP (Itl K a) g tt te vs Q σ H1
def LcRP (g : TG) (tt : TT) (te : TE) (vs : List Nat) (Q : VK) (σ : L2.St) : VK := fun x H1 => ∃ j : Int, [x] = [V.int j] ∧ -(2 ^ 62) ≤ j ∧ j < 2 ^ 62 ∧ LcP (Itr 0 j.toNat) g tt te vs Q σ H1
theorem lcLe (h : te2 σ H (LcLP K g tt te vs Q σ)) : tLc (U.iSeq K te2) g tt te vs σ H Q := .inl h
theorem lcR (h : te2 σ H (LcRP g tt te vs Q σ)) : tLc (iRng1 (tCons te2 tNil)) g tt te vs σ H Q := h
theorem lcLP (hq : SqL K H a xs) (Pv : Addr → Nat → Hp → Prop) (h0 : ∀ D, H D = none → Pv D 0 (upd H D (.lst []))) (hl : ∀ D i H, Pv D i H → SqL K H a xs)
    (hs : ∀ D i x H, xs[i]? = some x → Pv D i H → g x (wipe σ vs) H fun σ2 H2 => wipe σ2 vs = wipe σ vs ∧ tt σ2 H2 fun b H3 =>
      if b = true then te σ2 H3 fun y H4 => ∃ acc, H4 D = some (.lst acc) ∧ acc.length < sizeLine ∧ Pv D (i + 1) (upd H4 D (.lst (acc ++ [y]))) else Pv D (i + 1) H3)
    (hd : ∀ D H, Pv D xs.length H → Q (.ref D) H) : LcLP K g tt te vs Q σ (.ref a) H :=
  ⟨a, rfl, ⟨xs, hq⟩, lcP_mk xs.length Pv h0 (fun D i H p hlt => ⟨xs, xs[i], hl D i H p, List.getElem?_eq_getElem hlt⟩) (fun D H p => ⟨xs, hl D _ H p, Nat.le_refl _⟩)
    (fun D i H x H' p _ y => by
      obtain ⟨rfl, y2⟩ := y
      exact hs D i x H' (y2 xs (hl D i H' p)) p) hd⟩
theorem lcRP (b1 : -4611686018427387904 ≤ j) (b2 : j < 4611686018427387904) (Pv : Addr → Nat → Hp → Prop) (h0 : ∀ D, H D = none → Pv D 0 (upd H D (.lst [])))
    (hs : ∀ D (i : Nat) H, (i : Int) < j → Pv D i H → g (.int (i : Nat)) (wipe σ vs) H fun σ2 H2 => wipe σ2 vs = wipe σ vs ∧ tt σ2 H2 fun b H3 =>
      if b = true then te σ2 H3 fun y H4 => ∃ acc, H4 D = some (.lst acc) ∧ acc.length < sizeLine ∧ Pv D (i + 1) (upd H4 D (.lst (acc ++ [y]))) else Pv D (i + 1) H3)
    (hd : ∀ D H, Pv D j.toNat H → Q (.ref D) H) : LcRP g tt te vs Q σ (.int j) H :=
  ⟨j, rfl, by rw [p62]; exact b1, by rw [p62]; exact b2, lcP_mk j.toNat Pv h0 (fun D i H _ hlt => hlt) (fun D H _ => Nat.le_refl _)
    (fun D i H x H' p hlt y => by
      obtain ⟨rfl, rfl⟩ := y
      have z : (0 : Int) + ((i : Nat) : Int) = ((i : Nat) : Int) := Int.zero_add _
      rw [z]
      exact hs D i H' (by omega) p) hd⟩
/-- name[lo:hi] of a list -/
theorem slL {lo hi : Option Int} (h : SqL K H a xs) (q : ∀ p, H p = none → Q (.ref p) (upd H p (.lst (cutV xs lo hi)))) : U.rSlU K (.ref a) lo hi H Q := .inl ⟨a, xs, rfl, h, q⟩
theorem exI2 {P : Int → Prop} (q : P j) : ∃ k, V.int j = .int k ∧ P k := ⟨j, rfl, q⟩
theorem sum {ns : List Int} (h : SqL K H a (ns.map V.int)) (q : Q (.int ns.sum) H) : rSum K [.ref a] H Q := ⟨a, ns, rfl, h, q⟩
theorem cut_to {k : Nat} (h : k ≤ xs.length) : cutV xs none (some (k : Int)) = xs.take k := by
  unfold cutV
  rw [HT.sIx_none, HT.sIx_nat, Nat.min_eq_left h, List.drop_zero, Nat.sub_zero]
theorem cut_mid {m k : Nat} (h : k ≤ xs.length) (hm : m ≤ k) : cutV xs (some (m : Int)) (some (k : Int)) = (xs.take k).drop m := by
  unfold cutV
  rw [HT.sIx_nat, HT.sIx_nat, Nat.min_eq_left h, Nat.min_eq_left (by omega), List.drop_take]
end
end R
namespace R
open PySem L2
theorem chain3 {σ : L2.St} {H : Hp} {Q : VK} {r1 r2 r3 : R2} {ta tb tc td : TE} (h : ta σ H fun x H1 => tb σ H1 fun y H2 => r1 x y H2 fun z H3 => ∃ k, z = .bl k ∧
  (if k = true then tc σ H3 fun w H4 => r2 y w H4 fun z2 H5 => ∃ k2, z2 = .bl k2 ∧ (if k2 = true then td σ H5 fun u H6 => r3 w u H6 Q else Q (.bl false) H5) else Q (.bl false) H3)) : U.tChain3 r1 r2 r3 ta tb tc td σ H Q := h
end R

namespace U
open PySem PySem.Spec PyProof.Rows L2
/-- the end, for a def that may let exceptions out in a world -/
theorem walk_ofW {l : PySem.W.OpenLaw} {n k : Nat} {q : Program} {loose : List Str} {XP : (Str → Option Value) → Heap → Prop} {YP : World → Heap → Prop} {d : DefRec} {CX : World → CXT} {x : Str}
    (hn : l.most = some n) (hn2 : n ≤ sizeLine) (hdf : d.params.defaults = []) (hr : Room k callerA)
    (F : ∀ (w : World) (mg : Str → Option Value) (fa : Addr) (h : Heap), YP w h → h.Ns mainGlobals mg → mg d.name = some (.ref fa) →
      ∃ (K : PySem.W.Frag) (fd : FuncData) (sp : Sp), K.In h ∧ (∀ (s : Shared) (u : Value), BindsTo s fd ⟨[u], []⟩ [(x, u)]) ∧
        (∀ (H : Hp) (a : Addr) (ns : List Int), ns.length ≤ n → Only H → SqL K H a (ns.map V.int) → sp [.ref a] H (fun v _ => v = .bl true) fun _ _ _ => False) ∧
        ∀ base : Heap, K.In base → base.Ns mainGlobals mg → FnOk l.prog w K mg base (CX w) k fa fd [x] sp)
    (hCX : ∀ (w : World) (H : Hp) (s : Shared) (e : Value) (s' : Shared), CX w [] H s (fun _ _ _ => False) e s' → False) :
    PySem.W.WalkO q loose XP YP l.row.toRowW d [] (fun f vs => PySem.call f vs) := by
  refine Att.attach_call hn hdf fun w s₀ s₁ mg mb fa o pm cd doc a vs ns G Y ho hd hcd hmg hobj hints hlen hg => ?_
  obtain ⟨K, fd, sp, KX, hb, hsp, hF⟩ := F w mg fa _ Y G.T.g hmg
  exact law_call KX G.T.g G.T.b G.T.builtins G.T.nolimit hg hobj hints (Nat.le_trans hlen hn2) hr hF hb (fun H hO hS => hsp H a ns hlen hO hS) fun H e s' => hCX w H s₁ e s'
theorem cx_no {P : Program} {w : World} (H : Hp) (s : Shared) (e : Value) (s' : Shared) (h : L2.CX P w [] H s (fun _ _ _ => False) e s') : False := by
  obtain ⟨_, _, _, _, _, _, _, _, _, _, _, _, h⟩ := h
  exact h
end U

namespace Pf
open PySem PySem.Spec PyProof.Rows L2
local macro_rules | `(tactic| wtm_at "hp") => `(tactic| first
  | assumption
  | exact upd_same
  | ((with_reducible apply R.updOld); assumption; wtm_at "hp")
  | ((with_reducible apply R.updNe); first | assumption | exact Ne.symm (by assumption); wtm_at "hp"))
local macro_rules | `(tactic| wtm_at "sq") => `(tactic| first
  | assumption
  | ((with_reducible apply SqL.of); wtm_at "hp")
  | ((with_reducible apply SqT.of); wtm_at "hp")
  | ((with_reducible apply R.sqlOld); assumption; wtm_at "sq")
  | ((with_reducible apply R.sqtOld); assumption; wtm_at "sq")
  | ((with_reducible apply R.sqlNe); assumption; wtm_at "sq")
  | ((with_reducible apply R.sqtNe); assumption; wtm_at "sq"))
local macro_rules | `(tactic| wtm_at "pl") => `(tactic| first
  | exact R.Pl.int _
  | exact R.Pl.str _
  | exact R.Pl.bl _
  | exact R.Pl.non
  | assumption
  | ((with_reducible apply R.Pl.lst); wtm_at "sq")
  | ((with_reducible apply R.Pl.tup); wtm_at "sq")
  | ((with_reducible apply R.Pl.dic); wtm_at "hp"))
local macro_rules | `(tactic| wtm_at "sc") => `(tactic| first
  | assumption
  | decide
  | omega)
local macro_rules | `(tactic| wtm_at "len") => `(tactic| first
  | assumption
  | (rw [sizeLine_eq]; first | decide | omega))
local macro_rules | `(tactic| wtm_at "vc1") => `(tactic| first
  | ((with_reducible apply R.var); with_unfolding_all rfl)
  | (with_reducible refine R.c ?_)
  | (with_reducible refine R.cons ?_)
  | (with_reducible refine R.nil ?_)
  | (with_reducible refine R.op ?_)
  | (with_reducible refine R.cb ?_)
  | (with_reducible refine R.seq ?_)
  | (with_reducible refine R.asg ?_)
  | (with_reducible refine R.gname ?_)
  | (with_reducible refine R.exB ?_)
  | (with_reducible refine R.ifS ?_)
  | (with_reducible refine R.testT ?_)
  | (with_reducible refine R.adI ?_)
  | (with_reducible refine R.i0 ?_)
  | (with_reducible refine R.ret ?_)
  | (with_reducible refine R.call ?_)
  | (with_reducible refine R.drop ?_)
  | (with_reducible refine R.testB ?_)
  | (with_reducible refine R.notT ?_)
  | (with_reducible refine R.next ?_)
  | ((with_reducible apply R.ixuL); wtm_at "sq"; with_unfolding_all rfl)
  | (with_reducible refine R.euI ?_)
  | (with_reducible refine iteT ?_)
  | (with_reducible refine iteF ?_)
  | (with_reducible refine R.lt ?_)
  | (with_reducible refine R.le ?_)
  | (with_reducible refine R.gt ?_)
  | (with_reducible refine R.ge ?_)
  | ((with_reducible apply R.mdI); wtm_at "sc")
  | ((with_reducible apply R.dvW); with_reducible apply R.cDiv; wtm_at "sc"; wtm_at "sc")
  | (with_reducible refine R.inI ?_)
  | (with_reducible refine R.forR ?_)
  | ((with_reducible apply R.mlA); wtm_at "sc"; wtm_at "sc")
  | ((with_reducible apply R.mlB); wtm_at "sc"; wtm_at "sc")
  | (with_reducible refine R.pw9 ?_)
  | (with_reducible refine R.pw18 ?_)
  | (with_reducible refine R.bm ?_)
  | (with_reducible refine R.andT ?_)
  | (with_reducible refine R.orT ?_)
  | (with_reducible refine R.lst ?_)
  | (with_reducible refine R.tup ?_)
  | wtm_at "vc2")
local macro_rules | `(tactic| wtm_at "vc2") => `(tactic| first
  | ((with_reducible apply R.aug); with_unfolding_all rfl)
  | (with_reducible refine R.ipi ?_)
  | (with_reducible refine R.ipA ?_)
  | (with_reducible refine R.par3 ?_)
  | (with_reducible refine R.exVs3 ?_)
  | (with_reducible refine R.par ?_)
  | (with_reducible refine R.exVs2 ?_)
  | (with_reducible refine R.gcons ?_)
  | (with_reducible refine R.gnil ?_)
  | (with_reducible refine R.gsub ?_)
  | (with_reducible refine R.nuI ?_)
  | (with_reducible refine R.euS ?_)
  | (with_reducible refine R.nuS ?_)
  | (with_reducible refine R.inB ?_)
  | (with_reducible refine R.abs ?_)
  | (with_reducible refine R.max2 ?_)
  | (with_reducible refine R.min2 ?_)
  | (with_reducible refine R.un ?_)
  | (with_reducible refine R.iU ?_)
  | (with_reducible refine R.andV ?_)
  | (with_reducible refine R.orV ?_)
  | (with_reducible refine R.notV ?_)
  | (with_reducible refine R.ifE ?_)
  | (with_reducible refine R.chain ?_)
  | (with_reducible refine R.isN ?_)
  | (with_reducible refine R.notN ?_)
  | (with_reducible refine R.callP ?_)
  | (with_reducible refine R.retN ?_)
  | (with_reducible refine R.brk ?_)
  | (with_reducible refine R.cont ?_)
  | (with_reducible refine R.iteNT ?_)
  | (with_reducible refine R.iteNF ?_)
  | ((with_reducible apply R.ixuT); wtm_at "sq"; with_unfolding_all rfl)
  | ((with_reducible apply R.lnL); wtm_at "sq")
  | ((with_reducible apply R.lnT); wtm_at "sq")
  | ((with_reducible apply R.lnK); assumption)
  | ((with_reducible apply R.gtup); wtm_at "sq"; with_unfolding_all rfl)
  | ((with_reducible apply R.setL); wtm_at "hp"; with_unfolding_all rfl)
  | ((with_reducible apply R.append); wtm_at "hp"; wtm_at "len")
  | ((with_reducible apply R.wip); rfl)
  | (with_reducible refine R.yes ?_)
  | (with_reducible refine R.lcR ?_)
  | (with_reducible refine R.chain3 ?_)
  | (with_reducible refine R.pw6 ?_)
  | (with_reducible refine R.pw8 ?_)
  | (with_reducible refine R.sl ?_)
  | (with_reducible refine R.noPart ?_)
  | (with_reducible refine R.part ?_)
  | (with_reducible refine R.exI ?_)
  | ((with_reducible apply R.lcAdd); wtm_at "hp"; wtm_at "len")
  | ((with_reducible apply R.isiI true); wtm_at "pl"; with_unfolding_all rfl)
  | ((with_reducible apply R.isiI false); wtm_at "pl"; with_unfolding_all rfl)
  | ((with_reducible apply R.isiB true); wtm_at "pl"; with_unfolding_all rfl)
  | ((with_reducible apply R.isiB false); wtm_at "pl"; with_unfolding_all rfl)
  | ((with_reducible apply R.isiT true); wtm_at "pl"; with_unfolding_all rfl)
  | ((with_reducible apply R.isiT false); wtm_at "pl"; with_unfolding_all rfl)
  | ((with_reducible apply R.isiL true); wtm_at "pl"; with_unfolding_all rfl)
  | ((with_reducible apply R.isiL false); wtm_at "pl"; with_unfolding_all rfl)
  | ((with_reducible apply R.isiS true); wtm_at "pl"; with_unfolding_all rfl)
  | ((with_reducible apply R.isiS false); wtm_at "pl"; with_unfolding_all rfl)
  | ((with_reducible apply R.isiD true); wtm_at "pl"; with_unfolding_all rfl)
  | ((with_reducible apply R.isiD false); wtm_at "pl"; with_unfolding_all rfl)
  | ((with_reducible apply R.isiLT true); wtm_at "hp"; wtm_at "pl"; with_unfolding_all rfl)
  | ((with_reducible apply R.isiLT false); wtm_at "hp"; wtm_at "pl"; with_unfolding_all rfl)
  | ((with_reducible apply R.tyLA); wtm_at "sq")
  | ((with_reducible apply R.iteTr); rfl)
  | ((with_reducible apply R.iteFr); rfl))
local macro_rules | `(tactic| wtm_at "vc") => `(tactic| repeat (wtm_at "vc1"))
local macro_rules | `(tactic| wtm_at "vs") => `(tactic| repeat ((fail_if_success (with_reducible apply R.seq)); wtm_at "vc1"))

/-! is_integer, is_between -/
def isInt : V → Bool
  | .int _ => true
  | _ => false
def btw (lo hi : Int) : V → Bool
  | .int i => decide (lo ≤ i) && decide (i ≤ hi)
  | _ => false
def sp_is_integer (K : PySem.W.Frag) : Sp := fun vs H Q _ => ∃ x n, vs = [x] ∧ R.Pl K H x n ∧ Q (.bl (isInt x)) H
theorem len_is_integer {K : PySem.W.Frag} (vs : List V) (H : Hp) (Q : VK) (E : XK) (h : sp_is_integer K vs H Q E) : vs.length = (["value"] : List Str).length := by
  obtain ⟨x, n, rfl, _⟩ := h; rfl
def t_is_integer (K : PySem.W.Frag) (E : XK) : TS :=
  (tRet (tAndV (tCB (rIsi K) (tCons (tVar 0) (tCons (tC (.ty "int")) tNil))) (tNotV (tCB (rIsi K) (tCons (tVar 0) (tCons (tC (.ty "bool")) tNil))))))
theorem rd_is_integer {K : PySem.W.Frag} (vs : List V) (H : Hp) (Q : VK) (E : XK) (h : sp_is_integer K vs H Q E) : t_is_integer K E { nx := fun _ H' => Q .non H', rt := Q } (start ["value"] vs) H := by
  obtain ⟨x, n, rfl, hp, k⟩ := h
  unfold t_is_integer
  cases hp <;> (wtm_at "vc"; exact k)
def sp_is_between (K : PySem.W.Frag) : Sp := fun vs H Q _ => ∃ x lo hi n, vs = [x, .int lo, .int hi] ∧ R.Pl K H x n ∧ Q (.bl (btw lo hi x)) H
theorem len_is_between {K : PySem.W.Frag} (vs : List V) (H : Hp) (Q : VK) (E : XK) (h : sp_is_between K vs H Q E) : vs.length = (["value", "least", "most"] : List Str).length := by
  obtain ⟨x, lo, hi, n, rfl, _⟩ := h; rfl
def t_is_between (K : PySem.W.Frag) (E : XK) : TS :=
  (tRet (tAndV (tCall (sp_is_integer K) [] E (tCons (tVar 0) tNil)) (tChain U.rLe U.rLe (tVar 1) (tVar 0) (tVar 2))))
theorem rd_is_between {K : PySem.W.Frag} (vs : List V) (H : Hp) (Q : VK) (E : XK) (h : sp_is_between K vs H Q E) : t_is_between K E { nx := fun _ H' => Q .non H', rt := Q } (start ["value", "least", "most"] vs) H := by
  obtain ⟨x, lo, hi, n, rfl, hp, k⟩ := h
  unfold t_is_between
  wtm_at "vc"
  refine ⟨x, n, rfl, hp, ?_⟩
  wtm_at "vc"
  cases hp with
  | int i =>
    refine iteT ?_
    wtm_at "vc"
    refine R.ifd ?_ ?_ <;> intro h
    · wtm_at "vc"
      have e : btw lo hi (.int i) = decide (i ≤ hi) := by simp [btw, h]
      rw [e] at k
      exact k
    · have e : btw lo hi (.int i) = false := by simp [btw, h]
      rw [e] at k
      exact k
  | _ => exact k

/-! the law's draws -/
structure PoolOk (a b : Int) : Prop where
  a0 : 0 ≤ a
  b0 : 0 ≤ b
  b1 : b < 2147483648
def PoolAt (H : Hp) (p : Addr) : Prop := ∃ a b : Int, H p = some (.lst [.int a, .int b]) ∧ PoolOk a b
theorem PoolAt.new {H : Hp} {p : Addr} {a b : Int} (h : PoolOk a b) : PoolAt (upd H p (.lst [.int a, .int b])) p := ⟨a, b, upd_same, h⟩
theorem PoolAt.old {H : Hp} {p q : Addr} {o : HO} (h : PoolAt H p) (n : H q = none) : PoolAt (upd H q o) p := let ⟨a, b, e, k⟩ := h; ⟨a, b, R.updOld n e, k⟩
theorem PoolAt.ne {H : Hp} {p q : Addr} {o : HO} (h : PoolAt H p) (n : p ≠ q) : PoolAt (upd H q o) p := let ⟨a, b, e, k⟩ := h; ⟨a, b, R.updNe n e, k⟩
def sp_law_take (K : PySem.W.Frag) : Sp := fun vs H Q _ => ∃ (p : Addr) (many : Int), vs = [.ref p, .int many] ∧ PoolAt H p ∧ 0 < many ∧ many < 4611686018427387904 ∧
  ∀ r H', 0 ≤ r → r < many → PoolAt H' p → R.ExB p H H' → Q (.int r) H'
theorem len_law_take {K : PySem.W.Frag} (vs : List V) (H : Hp) (Q : VK) (E : XK) (h : sp_law_take K vs H Q E) : vs.length = (["pool", "many"] : List Str).length := by
  obtain ⟨p, many, rfl, _⟩ := h; rfl
def t_law_take (K : PySem.W.Frag) (E : XK) : TS :=
  (tSeq (tIfS (tTest (tOp U.rGt (tOp (rIx K) (tVar 0) (tC (.int 0))) (tC (.int 0)))) (tSeq (tAsg (tOp U.rMod (tCB U.rInt (tCons (tOp (rIx K) (tVar 0) (tC (.int 0))) tNil)) (tVar 1)) (gName 2))
    (tSeq (tAsg (tOp U.rDiv (tCB U.rInt (tCons (tOp (rIx K) (tVar 0) (tC (.int 0))) tNil)) (tVar 1)) (gSub (tVar 0) (tC (.int 0)) rSetL))
    (tRet (tVar 2))))
    tNext)
    (tSeq (tAsg (tOp U.rMod (tCB U.rInt (tCons (tOp (U.rAdd K) (tOp U.rMul (tOp (rIx K) (tVar 0) (tC (.int 1))) (tC (.int 48271))) (tC (.int 11))) tNil)) (tC (.int 2147483647))) (gSub (tVar 0) (tC (.int 1)) rSetL))
    (tRet (tOp U.rMod (tOp U.rDiv (tOp U.rMod (tCB U.rInt (tCons (tOp U.rMul (tOp (rIx K) (tVar 0) (tC (.int 1))) (tOp (rIx K) (tVar 0) (tC (.int 1)))) tNil)) (tC (.int 2147483629))) (tC (.int 64))) (tVar 1)))))
theorem rd_law_take {K : PySem.W.Frag} (vs : List V) (H : Hp) (Q : VK) (E : XK) (h : sp_law_take K vs H Q E) : t_law_take K E { nx := fun _ H' => Q .non H', rt := Q } (start ["pool", "many", "found"] vs) H := by
  obtain ⟨p, many, rfl, ⟨a, b, hp, ⟨a0, b0, b1⟩⟩, m0, m1, k⟩ := h
  unfold t_law_take
  wtm_at "vc"
  (with_reducible refine R.ifd ?_ ?_) <;> intro h
  · wtm_at "vc"
    exact k _ _ (Int.emod_nonneg _ (by omega)) (Int.emod_lt_of_pos _ m0) (PoolAt.new ⟨Int.ediv_nonneg a0 (by omega), b0, b1⟩) R.ExB.at
  · have q0 : 0 ≤ (b * 48271 + 11) % 2147483647 := Int.emod_nonneg _ (by decide)
    have q1 : (b * 48271 + 11) % 2147483647 < 2147483647 := Int.emod_lt_of_pos _ (by decide)
    wtm_at "vc"
    exact k _ _ (Int.emod_nonneg _ (by omega)) (Int.emod_lt_of_pos _ m0) (PoolAt.new ⟨a0, q0, by omega⟩) R.ExB.at

def sp_law_pool (K : PySem.W.Frag) : Sp := fun vs H Q _ => ∃ (s : Addr) (ns : List Int) (k : Nat), vs = [.ref s, .int k] ∧ SqL K H s (ns.map V.int) ∧ k ≤ 1000 ∧
  ∀ p H', H p = none → PoolAt H' p → R.Ex H H' → Q (.ref p) H'
theorem len_law_pool {K : PySem.W.Frag} (vs : List V) (H : Hp) (Q : VK) (E : XK) (h : sp_law_pool K vs H Q E) : vs.length = (["script", "k"] : List Str).length := by
  obtain ⟨s, ns, k, rfl, _⟩ := h; rfl
def t_law_pool (K : PySem.W.Frag) (E : XK) : TS :=
  (tSeq (tAsg (tC (.int 0)) (gName 2))
    (tSeq (tIfS (tTest (tOp U.rLt (tVar 1) (tCB (U.rLen K) (tCons (tVar 0) tNil)))) (tAsg (tCB U.rInt (tCons (tOp (rIx K) (tVar 0) (tVar 1)) tNil)) (gName 2))
    tNext)
    (tSeq (tAsg (tCB U.rAbs (tCons (tVar 2) tNil)) (gName 3))
    (tSeq (tAsg (tOp (U.rAdd K) (tOp (U.rAdd K) (tOp U.rMod (tCB U.rInt (tCons (tVar 2) tNil)) (tC (.int 2147483629))) (tOp U.rMul (tC (.int 48271)) (tVar 1))) (tC (.int 11))) (gName 4))
    (tRet (tLst (tCons (tOp U.rMul (tVar 3) (tCB U.rInt (tCons (tOp U.rGe (tVar 3) (tOp U.rPow (tC (.int 10)) (tC (.int 18)))) tNil))) (tCons (tOp U.rMod (tCB U.rInt (tCons (tOp (U.rAdd K) (tOp U.rMul (tOp U.rMul (tVar 4) (tVar 4)) (tVar 4)) (tOp U.rMul (tC (.int 39373)) (tVar 1))) tNil)) (tC (.int 2147483647))) tNil))))))))
theorem pool_tail {K : PySem.W.Frag} {s : Addr} {c : Int} {k : Nat} {Q : VK} {H : Hp} {D : Ends} (hD : D.rt = Q) (hk : k ≤ 1000) (h : ∀ p H', H p = none → PoolAt H' p → R.Ex H H' → Q (.ref p) H') :
   (tSeq (tAsg (tCB U.rAbs (tCons (tVar 2) tNil)) (gName 3))
    (tSeq (tAsg (tOp (U.rAdd K) (tOp (U.rAdd K) (tOp U.rMod (tCB U.rInt (tCons (tVar 2) tNil)) (tC (.int 2147483629))) (tOp U.rMul (tC (.int 48271)) (tVar 1))) (tC (.int 11))) (gName 4))
    (tRet (tLst (tCons (tOp U.rMul (tVar 3) (tCB U.rInt (tCons (tOp U.rGe (tVar 3) (tOp U.rPow (tC (.int 10)) (tC (.int 18)))) tNil))) (tCons (tOp U.rMod (tCB U.rInt (tCons (tOp (U.rAdd K) (tOp U.rMul (tOp U.rMul (tVar 4) (tVar 4)) (tVar 4)) (tOp U.rMul (tC (.int 39373)) (tVar 1))) tNil)) (tC (.int 2147483647))) tNil))))))
    D [some (.ref s), some (.int k), some (.int c), none, none] H := by
  have s0 : 0 ≤ c % 2147483629 := Int.emod_nonneg _ (by decide)
  have s1 : c % 2147483629 < 2147483629 := Int.emod_lt_of_pos _ (by decide)
  generalize hg : (if c < 0 then -c else c) = g
  have g0 : 0 ≤ g := by rw [← hg]; split <;> omega
  have m0 : ∀ P : Prop, [Decidable P] → -18446744073709551616 < (if decide P = true then (1 : Int) else 0) ∧ (if decide P = true then (1 : Int) else 0) < 18446744073709551616 ∧ 0 ≤ (if decide P = true then (1 : Int) else 0) := fun P _ => by split <;> omega
  wtm_at "vc"
  rw [hg]
  wtm_at "vc"
  have m1 := m0 (1000000000000000000 ≤ g)
  refine ⟨by show 2 ≤ sizeLine; decide, fun p hp => ?_⟩
  rw [hD]
  exact h p _ hp (PoolAt.new ⟨Int.mul_nonneg g0 m1.2.2, Int.emod_nonneg _ (by decide), by have := Int.emod_lt_of_pos ((c % 2147483629 + 48271 * k + 11) * (c % 2147483629 + 48271 * k + 11) * (c % 2147483629 + 48271 * k + 11) + 39373 * k) (show (0 : Int) < 2147483647 by decide); omega⟩) (R.Ex.new hp)
theorem rd_law_pool {K : PySem.W.Frag} (vs : List V) (H : Hp) (Q : VK) (E : XK) (h : sp_law_pool K vs H Q E) : t_law_pool K E { nx := fun _ H' => Q .non H', rt := Q } (start ["script", "k", "cell", "great", "seed"] vs) H := by
  obtain ⟨s, ns, k, rfl, hs, hk, h⟩ := h
  unfold t_law_pool
  wtm_at "vc"
  (with_reducible refine R.ifd ?_ ?_) <;> intro hlt
  · rw [List.length_map] at hlt
    have hlt' : k < ns.length := by omega
    have e : atI (ns.map V.int) (k : Int) = some (.int ns[k]) := atI_nat (by simp [hlt'])
    wtm_at "vc"
    refine R.ixuL hs e ?_
    wtm_at "vc1"
    wtm_at "vc1"
    wtm_at "vc1"
    exact pool_tail rfl hk h
  · exact pool_tail rfl hk h

abbrev c_MOST : V := .int 1000000000
/-! rows of pairs -/
structure Prs (K : PySem.W.Frag) (H : Hp) (xs : List V) (ps : List (Int × Int)) : Prop where
  len : xs.length = ps.length
  at_ : ∀ (i : Nat) (p : Int × Int), ps[i]? = some p → ∃ t : Addr, xs[i]? = some (.ref t) ∧ SqT K H t [.int p.1, .int p.2]
def POk (ps : List (Int × Int)) : Prop := ∀ p ∈ ps, 0 ≤ p.1 ∧ p.1 ≤ 1000000000 ∧ 1 ≤ p.2 ∧ p.2 ≤ 1000000000
theorem Prs.ex {K : PySem.W.Frag} {H H' : Hp} {xs : List V} {ps : List (Int × Int)} (h : Prs K H xs ps) (e : R.Ex H H') : Prs K H' xs ps :=
  ⟨h.len, fun i p q => let ⟨t, a, b⟩ := h.at_ i p q; ⟨t, a, e.t b⟩⟩
theorem Prs.exb {K : PySem.W.Frag} {H H' : Hp} {p : Addr} {ys xs : List V} {ps : List (Int × Int)} (h : Prs K H xs ps) (e : R.ExB p H H') (hp : H p = some (.lst ys)) : Prs K H' xs ps :=
  ⟨h.len, fun i p q => let ⟨t, a, b⟩ := h.at_ i p q; ⟨t, a, R.sqtB e hp b⟩⟩
theorem Prs.get {K : PySem.W.Frag} {H : Hp} {xs : List V} {ps : List (Int × Int)} (h : Prs K H xs ps) {i : Nat} {x : V} (hx : xs[i]? = some x) : ∃ p t, ps[i]? = some p ∧ x = .ref t ∧ SqT K H t [.int p.1, .int p.2] := by
  have hi := (List.getElem?_eq_some_iff.mp hx).1
  have hi2 : i < ps.length := by rw [← h.len]; exact hi
  obtain ⟨t, a, b⟩ := h.at_ i _ (List.getElem?_eq_getElem hi2)
  rw [hx] at a
  exact ⟨_, t, List.getElem?_eq_getElem hi2, Option.some.inj a, b⟩
theorem POk.get {ps : List (Int × Int)} (h : POk ps) {i : Nat} {p : Int × Int} (hp : ps[i]? = some p) : 0 ≤ p.1 ∧ p.1 ≤ 1000000000 ∧ 1 ≤ p.2 ∧ p.2 ≤ 1000000000 := h p (List.mem_of_getElem? hp)
/-! require_number, is_row, require_sizes -/
def sp_require_number (K : PySem.W.Frag) : Sp := fun vs H Q _ => ∃ i : Int, vs = [.int i] ∧ 0 ≤ i ∧ i ≤ 1000000000 ∧ Q .non H
theorem len_require_number {K : PySem.W.Frag} (vs : List V) (H : Hp) (Q : VK) (E : XK) (h : sp_require_number K vs H Q E) : vs.length = (["value"] : List Str).length := by
  obtain ⟨i, rfl, _⟩ := h; rfl
def t_require_number (K : PySem.W.Frag) (E : XK) : TS :=
  (tIfS (tNot (tB (tCall (sp_is_between K) [] E (tCons (tVar 0) (tCons (tC (.int 0)) (tCons (tC c_MOST) tNil)))))) U.tNever
    tNext)
theorem btwT {lo hi i : Int} (h : lo ≤ i) (h2 : i ≤ hi) : btw lo hi (.int i) = true := by simp [btw, h, h2]
theorem rd_require_number {K : PySem.W.Frag} (vs : List V) (H : Hp) (Q : VK) (E : XK) (h : sp_require_number K vs H Q E) : t_require_number K E { nx := fun _ H' => Q .non H', rt := Q } (start ["value"] vs) H := by
  obtain ⟨i, rfl, h1, h2, k⟩ := h
  unfold t_require_number
  wtm_at "vc"
  refine ⟨_, _, _, _, rfl, .int i, ?_⟩
  rw [btwT h1 h2]
  wtm_at "vc"
  exact k
def sp_is_row (K : PySem.W.Frag) : Sp := fun vs H Q _ => ∃ x n, vs = [x] ∧ R.Pl K H x n ∧ ∀ H', R.Ex H H' → Q (.bl (n.isL || n.isT)) H'
theorem len_is_row {K : PySem.W.Frag} (vs : List V) (H : Hp) (Q : VK) (E : XK) (h : sp_is_row K vs H Q E) : vs.length = (["value"] : List Str).length := by
  obtain ⟨x, n, rfl, _⟩ := h; rfl
def t_is_row (K : PySem.W.Frag) (E : XK) : TS :=
  (tRet (tCB (rIsiT K) (tCons (tVar 0) (tCons (tTup (tCons (tC (.ty "list")) (tCons (tC (.ty "tuple")) tNil))) tNil))))
theorem rd_is_row {K : PySem.W.Frag} (vs : List V) (H : Hp) (Q : VK) (E : XK) (h : sp_is_row K vs H Q E) : t_is_row K E { nx := fun _ H' => Q .non H', rt := Q } (start ["value"] vs) H := by
  obtain ⟨x, n, rfl, hp, k⟩ := h
  unfold t_is_row
  wtm_at "vc"
  refine ⟨by decide, fun t nt => ?_⟩
  wtm_at "vc"
  exact R.isiLT _ upd_same ((R.Ex.new nt).pl hp) rfl (k _ (R.Ex.new nt))
def sp_require_sizes (K : PySem.W.Frag) : Sp := fun vs H Q _ => ∃ l a xs ps, vs = [.ref a] ∧ R.SqK K l H a xs ∧ Prs K H xs ps ∧ POk ps ∧ ∀ H', R.Ex H H' → Q .non H'
theorem len_require_sizes {K : PySem.W.Frag} (vs : List V) (H : Hp) (Q : VK) (E : XK) (h : sp_require_sizes K vs H Q E) : vs.length = (["sizes"] : List Str).length := by
  obtain ⟨l, a, xs, ps, rfl, _⟩ := h; rfl
def t_require_sizes (K : PySem.W.Frag) (E : XK) : TS :=
  (tSeq (tIfS (tNot (tB (tCall (sp_is_row K) [] E (tCons (tVar 0) tNil)))) U.tNever
    tNext)
    (tFor (U.iEn K (tCons (tVar 0) tNil)) (gTup K 2 (gCons (gName 1) (gCons (gName 2) gNil)))
    (tSeq (tIfS (tOr (tNot (tB (tCB (rIsi K) (tCons (tVar 2) (tCons (tC (.ty "tuple")) tNil))))) (tTest (tOp (U.rNeU K) (tCB (U.rLen K) (tCons (tVar 2) tNil)) (tC (.int 2))))) U.tNever
    tNext)
    (tIfS (tOr (tNot (tB (tCall (sp_is_between K) [] E (tCons (tOp (rIx K) (tVar 2) (tC (.int 0))) (tCons (tC (.int 0)) (tCons (tC c_MOST) tNil)))))) (tNot (tB (tCall (sp_is_between K) [] E (tCons (tOp (rIx K) (tVar 2) (tC (.int 1))) (tCons (tC (.int 1)) (tCons (tC c_MOST) tNil))))))) U.tNever
    tNext))))
theorem rd_require_sizes {K : PySem.W.Frag} (vs : List V) (H : Hp) (Q : VK) (E : XK) (h : sp_require_sizes K vs H Q E) : t_require_sizes K E { nx := fun _ H' => Q .non H', rt := Q } (start ["sizes", "index", "item"] vs) H := by
  obtain ⟨l, a, xs, ps, rfl, hs, hp, hk, k⟩ := h
  unfold t_require_sizes
  wtm_at "vc"
  refine ⟨_, _, rfl, hs.pl, fun H1 e1 => ?_⟩
  have z : ((if l = true then R.Kn.lst else R.Kn.tup).isL || (if l = true then R.Kn.lst else R.Kn.tup).isT) = true := by cases l <;> rfl
  rw [z]
  wtm_at "vc"
  refine R.forEn rfl (e1.k hs) (fun _ σ H' => ∃ u v, σ = [some (.ref a), u, v] ∧ R.Ex H H') ⟨none, none, rfl, e1⟩ (fun i σ H2 _ ⟨_, _, _, e⟩ => e.k hs) ?_ (fun σ H2 ⟨_, _, _, e⟩ => k _ e)
  rintro i x T σ H2 hx ⟨u, v, rfl, e2⟩ nT
  obtain ⟨p, t, hp2, rfl, ht⟩ := (hp.ex e2).get hx
  obtain ⟨q1, q2, q3, q4⟩ := hk.get hp2
  have ht2 := (R.Ex.new (o := .tup [.int (i : Nat), .ref t]) nT).t ht
  have e3 := e2.tr (R.Ex.new (o := .tup [.int (i : Nat), .ref t]) nT)
  wtm_at "vc"
  refine ⟨_, _, _, _, rfl, .int p.1, ?_⟩
  rw [btwT q1 q2]
  wtm_at "vc"
  refine ⟨_, _, _, _, rfl, .int p.2, ?_⟩
  rw [btwT q3 q4]
  wtm_at "vc"
  exact ⟨_, _, rfl, e3⟩
/-! least_delay -/
def ld (r : Int) : List (Int × Int) → Int → Int → Int → Int
  | [], f, _, _ => f
  | p :: ps, f, t, d => ld r ps (if t + p.1 - d > f then t + p.1 - d else f) (t + p.1) (d + r * p.2)
def inT (r : Int) : List (Int × Int) → Int → Int → Bool
  | [], _, _ => true
  | p :: ps, t, a => if t + p.1 > a then false else inT r ps (t + p.1) (a + r * p.2)
def sp_least_delay (K : PySem.W.Frag) : Sp := fun vs H Q _ => ∃ l a r xs ps, vs = [.ref a, .int r] ∧ 0 ≤ r ∧ r ≤ 1000000000 ∧ R.SqK K l H a xs ∧ Prs K H xs ps ∧ POk ps ∧ ∀ H', R.Ex H H' → Q (.int (ld r ps 0 0 0)) H'
theorem len_least_delay {K : PySem.W.Frag} (vs : List V) (H : Hp) (Q : VK) (E : XK) (h : sp_least_delay K vs H Q E) : vs.length = (["sizes", "rate"] : List Str).length := by
  obtain ⟨l, a, r, xs, ps, rfl, _⟩ := h; rfl
def t_least_delay (K : PySem.W.Frag) (E : XK) : TS :=
  (tSeq (tDrop (tCall (sp_require_sizes K) [] E (tCons (tVar 0) tNil)))
    (tSeq (tDrop (tCall (sp_require_number K) [] E (tCons (tVar 1) tNil)))
    (tSeq (tAsg (tTup (tCons (tC (.int 0)) (tCons (tC (.int 0)) (tCons (tC (.int 0)) tNil)))) (gTup K 3 (gCons (gName 2) (gCons (gName 3) (gCons (gName 4) gNil)))))
    (tSeq (tFor (U.iSeq K (tVar 0)) (gTup K 2 (gCons (gName 5) (gCons (gName 6) gNil)))
    (tSeq (tAug 3 (tVar 5) U.rIpAdd)
    (tSeq (tAsg (tCB U.rMax2 (tCons (tVar 2) (tCons (tOp U.rSub (tVar 3) (tVar 4)) tNil))) (gName 2))
    (tAug 4 (tOp U.rMul (tVar 1) (tVar 6)) U.rIpAdd))))
    (tRet (tVar 2))))))
theorem rd_least_delay {K : PySem.W.Frag} (vs : List V) (H : Hp) (Q : VK) (E : XK) (h : sp_least_delay K vs H Q E) : t_least_delay K E { nx := fun _ H' => Q .non H', rt := Q } (start ["sizes", "rate", "found", "total", "delivered", "size", "length"] vs) H := by
  obtain ⟨l, a, r, xs, ps, rfl, r0, r1, hs, hp, hk, k⟩ := h
  unfold t_least_delay
  wtm_at "vc"
  refine ⟨l, a, xs, ps, rfl, hs, hp, hk, fun H1 e1 => ?_⟩
  wtm_at "vc"
  refine ⟨r, rfl, r0, r1, ?_⟩
  wtm_at "vc"
  refine ⟨by decide, fun T nT => ?_⟩
  have e2 := e1.tr (R.Ex.new (o := .tup [.int 0, .int 0, .int 0]) nT)
  wtm_at "vc"
  refine R.forSV rfl (e2.k hs) (fun i σ H' => ∃ f t d u v, σ = [some (.ref a), some (.int r), some (.int f), some (.int t), some (.int d), u, v] ∧ R.Ex H H' ∧ ld r (ps.drop i) f t d = ld r ps 0 0 0) ⟨0, 0, 0, none, none, rfl, e2, rfl⟩ (fun i σ H2 _ ⟨_, _, _, _, _, _, e, _⟩ => e.k hs) ?_ ?_
  · rintro i x σ H2 hx ⟨f, t, d, u, v, rfl, e3, eq⟩
    obtain ⟨p, tt, hp2, rfl, ht⟩ := (hp.ex e3).get hx
    rw [R.drop_cons hp2] at eq
    wtm_at "vc"
    exact ⟨_, _, _, _, _, rfl, e3, eq⟩
  · rintro σ H2 ⟨f, t, d, u, v, rfl, e3, eq⟩
    rw [hp.len, List.drop_length] at eq
    wtm_at "vc"
    have e4 : f = ld r ps 0 0 0 := eq
    rw [e4]
    exact k _ e3
def sp_law_in_time (K : PySem.W.Frag) : Sp := fun vs H Q _ => ∃ a r w xs ps, vs = [.ref a, .int r, .int w] ∧ 0 ≤ r ∧ r ≤ 1000000000 ∧ SqL K H a xs ∧ Prs K H xs ps ∧ Q (.bl (inT r ps 0 w)) H
theorem len_law_in_time {K : PySem.W.Frag} (vs : List V) (H : Hp) (Q : VK) (E : XK) (h : sp_law_in_time K vs H Q E) : vs.length = (["parts", "pace", "waits"] : List Str).length := by
  obtain ⟨a, r, w, xs, ps, rfl, _⟩ := h; rfl
def t_law_in_time (K : PySem.W.Frag) (E : XK) : TS :=
  (tSeq (tPar 4 5 (tCons (tC (.int 0)) (tCons (tVar 2) tNil)))
    (tSeq (tFor (U.iSeq K (tVar 0)) (gName 3)
    (tSeq (tAsg (tOp (U.rAdd K) (tVar 4) (tOp (rIx K) (tVar 3) (tC (.int 0)))) (gName 4))
    (tSeq (tIfS (tTest (tOp U.rGt (tVar 4) (tVar 5))) (tRet (tC (.bl false)))
    tNext)
    (tAsg (tOp (U.rAdd K) (tVar 5) (tOp U.rMul (tVar 1) (tOp (rIx K) (tVar 3) (tC (.int 1))))) (gName 5)))))
    (tRet (tC (.bl true)))))
theorem rd_law_in_time {K : PySem.W.Frag} (vs : List V) (H : Hp) (Q : VK) (E : XK) (h : sp_law_in_time K vs H Q E) : t_law_in_time K E { nx := fun _ H' => Q .non H', rt := Q } (start ["parts", "pace", "waits", "item", "total", "arrived"] vs) H := by
  obtain ⟨a, r, w, xs, ps, rfl, r0, r1, hs, hp, k⟩ := h
  unfold t_law_in_time
  wtm_at "vc"
  refine R.forLV rfl hs (fun i σ H' => ∃ t d v, σ = [some (.ref a), some (.int r), some (.int w), v, some (.int t), some (.int d)] ∧ H' = H ∧ inT r (ps.drop i) t d = inT r ps 0 w) ⟨0, w, none, rfl, rfl, rfl⟩ (fun i σ H2 _ ⟨_, _, _, _, e, _⟩ => e ▸ hs) ?_ ?_
  · rintro i x σ H2 hx ⟨t, d, v, rfl, rfl, eq⟩
    obtain ⟨p, tt, hp2, rfl, ht⟩ := hp.get hx
    rw [R.drop_cons hp2] at eq
    change (if t + p.1 > d then false else inT r (ps.drop (i + 1)) (t + p.1) (d + r * p.2)) = inT r ps 0 w at eq
    wtm_at "vc"
    (with_reducible refine R.ifd ?_ ?_) <;> intro h
    · rw [if_pos h] at eq
      wtm_at "vc"
      rw [← eq] at k
      exact k
    · rw [if_neg h] at eq
      wtm_at "vc"
      exact ⟨_, _, _, rfl, rfl, eq⟩
  · rintro σ H2 ⟨t, d, v, rfl, rfl, eq⟩
    rw [hp.len, List.drop_length] at eq
    wtm_at "vc"
    have e4 : true = inT r ps 0 w := eq
    rw [← e4] at k
    exact k

/-! _law_sizes -/
def sp_law_sizes (K : PySem.W.Frag) : Sp := fun vs H Q _ => ∃ (p : Addr) (pace : Int), vs = [.ref p, .int pace] ∧ PoolAt H p ∧ 0 ≤ pace ∧ pace ≤ 1000000000 ∧
  ∀ H' q xs ps, R.ExB p H H' → PoolAt H' p → H q = none → H' q = some (.lst xs) → Prs K H' xs ps → POk ps → xs.length ≤ 30 → Q (.ref q) H'
theorem len_law_sizes {K : PySem.W.Frag} (vs : List V) (H : Hp) (Q : VK) (E : XK) (h : sp_law_sizes K vs H Q E) : vs.length = (["pool", "pace"] : List Str).length := by
  obtain ⟨p, pace, rfl, _⟩ := h; rfl
def t_law_sizes (K : PySem.W.Frag) (E : XK) : TS :=
  (tSeq (tPar 3 4 (tCons (tLst tNil) (tCons (tCall (sp_law_take K) [] E (tCons (tVar 0) (tCons (tC (.int 5)) tNil))) tNil)))
    (tSeq (tFor (iRng1 (tCons (tOp (rIx K) (tLst (tCons (tC (.int 0)) (tCons (tC (.int 1)) (tCons (tC (.int 2)) (tCons (tC (.int 5)) (tCons (tC (.int 12)) (tCons (tC (.int 30)) tNil))))))) (tCall (sp_law_take K) [] E (tCons (tVar 0) (tCons (tC (.int 6)) tNil)))) tNil)) (gName 2)
    (tSeq (tAsg (tOp (U.rAdd K) (tC (.int 1)) (tCall (sp_law_take K) [] E (tCons (tVar 0) (tCons (tC (.int 8)) tNil)))) (gName 5))
    (tSeq (tAsg (tCB U.rMax2 (tCons (tC (.int 0)) (tCons (tOp U.rSub (tOp (U.rAdd K) (tOp U.rMul (tVar 1) (tVar 5)) (tCall (sp_law_take K) [] E (tCons (tVar 0) (tCons (tC (.int 41)) tNil)))) (tC (.int 20))) tNil))) (gName 6))
    (tSeq (tIfS (tTest (tOp (U.rEqU K) (tVar 4) (tC (.int 0)))) (tAsg (tOp (rIx K) (tLst (tCons (tC (.int 0)) (tCons (tVar 6) (tCons (tCall (sp_law_take K) [] E (tCons (tVar 0) (tCons (tOp (U.rAdd K) (tOp U.rMul (tOp U.rMul (tC (.int 3)) (tVar 1)) (tVar 5)) (tC (.int 1))) tNil))) tNil)))) (tCall (sp_law_take K) [] E (tCons (tVar 0) (tCons (tC (.int 3)) tNil)))) (gName 6))
    tNext)
    (tSeq (tIfS (tTest (tOp (U.rEqU K) (tVar 4) (tC (.int 1)))) (tPar 6 5 (tCons (tOp (rIx K) (tLst (tCons (tC (.int 0)) (tCons (tOp U.rPow (tC (.int 10)) (tC (.int 9))) (tCons (tC (.int 7)) tNil)))) (tCall (sp_law_take K) [] E (tCons (tVar 0) (tCons (tC (.int 3)) tNil)))) (tCons (tOp (rIx K) (tLst (tCons (tC (.int 1)) (tCons (tOp U.rPow (tC (.int 10)) (tC (.int 9))) (tCons (tC (.int 5)) tNil)))) (tCall (sp_law_take K) [] E (tCons (tVar 0) (tCons (tC (.int 3)) tNil)))) tNil)))
    tNext)
    (tDrop (tBM K "list" rAppend (tVar 3) (tCons (tTup (tCons (tCB U.rMin2 (tCons (tVar 6) (tCons (tOp U.rPow (tC (.int 10)) (tC (.int 9))) tNil))) (tCons (tVar 5) tNil))) tNil))))))))
    (tRet (tVar 3))))
/-- the state of the loop's turns -/
structure SzI (K : PySem.W.Frag) (p q : Addr) (H H' : Hp) (xs : List V) (ps : List (Int × Int)) : Prop where
  e : R.ExB p H H'
  pl : PoolAt H' p
  n : H q = none
  q : H' q = some (.lst xs)
  pr : Prs K H' xs ps
  ok : POk ps
theorem PoolAt.lst {H : Hp} {p : Addr} (h : PoolAt H p) : ∃ ys, H p = some (.lst ys) := let ⟨_, _, h, _⟩ := h; ⟨_, h⟩
theorem SzI.ne {K : PySem.W.Frag} {p q : Addr} {H H' : Hp} {xs : List V} {ps : List (Int × Int)} (s : SzI K p q H H' xs ps) (hp : PoolAt H p) : q ≠ p := let ⟨_, h⟩ := hp.lst; R.ne_of_some h s.n
theorem SzI.take {K : PySem.W.Frag} {p q : Addr} {H H' H2 : Hp} {xs : List V} {ps : List (Int × Int)} (s : SzI K p q H H' xs ps) (hp : PoolAt H p) (e : R.ExB p H' H2) (h2 : PoolAt H2 p) : SzI K p q H H2 xs ps :=
  let ⟨_, h⟩ := s.pl.lst
  ⟨s.e.tr e, h2, s.n, e _ _ (s.ne hp) s.q, s.pr.exb e h, s.ok⟩
theorem SzI.new {K : PySem.W.Frag} {p q r : Addr} {H H' : Hp} {xs : List V} {ps : List (Int × Int)} {o : HO} (s : SzI K p q H H' xs ps) (n : H' r = none) : SzI K p q H (upd H' r o) xs ps :=
  ⟨s.e.tr (R.ExB.new n), s.pl.old n, s.n, R.updOld n s.q, s.pr.ex (R.Ex.new n), s.ok⟩
theorem Prs.snoc {K : PySem.W.Frag} {H : Hp} {xs : List V} {ps : List (Int × Int)} {t : Addr} {a b : Int} (h : Prs K H xs ps) (ht : SqT K H t [.int a, .int b]) : Prs K H (xs ++ [.ref t]) (ps ++ [(a, b)]) := by
  refine ⟨by simp [h.len], fun i p hp => ?_⟩
  by_cases hi : i < ps.length
  · rw [List.getElem?_append_left hi] at hp
    obtain ⟨u, h1, h2⟩ := h.at_ i p hp
    exact ⟨u, by rw [List.getElem?_append_left (by rw [h.len]; exact hi)]; exact h1, h2⟩
  · have hi2 : ps.length ≤ i := by omega
    rw [List.getElem?_append_right hi2] at hp
    have hl := (List.getElem?_eq_some_iff.mp hp).1
    have z : i = ps.length := by simp at hl; omega
    subst z
    simp at hp
    subst hp
    exact ⟨t, by rw [← h.len]; simp, ht⟩
theorem sqt_mut {K : PySem.W.Frag} {H : Hp} {t q : Addr} {xs ys : List V} {o : HO} (h : SqT K H t xs) (hq : H q = some (.lst ys)) : SqT K (upd H q o) t xs := R.sqtB (p := q) R.ExB.at hq h
theorem SzI.app {K : PySem.W.Frag} {p q t : Addr} {H H' : Hp} {xs : List V} {ps : List (Int × Int)} {a b : Int} (s : SzI K p q H H' xs ps) (hp : PoolAt H p) (ht : SqT K H' t [.int a, .int b]) (a0 : 0 ≤ a) (a1 : a ≤ 1000000000) (b0 : 1 ≤ b) (b1 : b ≤ 1000000000) :
    SzI K p q H (upd H' q (.lst (xs ++ [.ref t]))) (xs ++ [.ref t]) (ps ++ [(a, b)]) := by
  refine ⟨s.e.mut s.n, s.pl.ne (Ne.symm (s.ne hp)), s.n, upd_same, ?_, ?_⟩
  · exact Prs.snoc ⟨s.pr.len, fun i r hr => let ⟨u, h1, h2⟩ := s.pr.at_ i r hr; ⟨u, h1, sqt_mut h2 s.q⟩⟩ (sqt_mut ht s.q)
  · intro r hr
    rcases List.mem_append.mp hr with h | h
    · exact s.ok r h
    · rw [List.mem_singleton.mp h]; exact ⟨a0, a1, b0, b1⟩
/-- one turn's end: size, many are known -/
theorem sz_tail {K : PySem.W.Frag} {p q : Addr} {H H' : Hp} {xs : List V} {ps : List (Int × Int)} {D : Ends} {pace way many size : Int} {tv : Option V} (s : SzI K p q H H' xs ps) (hp : PoolAt H p) (hl : xs.length < 40) (m0 : 1 ≤ many) (m1 : many ≤ 1000000000) (z0 : 0 ≤ size)
    (k : ∀ H2 xs2 ps2, xs2.length = xs.length + 1 → SzI K p q H H2 xs2 ps2 → D.nx [some (.ref p), some (.int pace), tv, some (.ref q), some (.int way), some (.int many), some (.int size)] H2) :
    (tDrop (tBM K "list" rAppend (tVar 3) (tCons (tTup (tCons (tCB U.rMin2 (tCons (tVar 6) (tCons (tOp U.rPow (tC (.int 10)) (tC (.int 9))) tNil))) (tCons (tVar 5) tNil))) tNil))) D
      [some (.ref p), some (.int pace), tv, some (.ref q), some (.int way), some (.int many), some (.int size)] H' := by
  have hq := s.q
  wtm_at "vc"
  refine ⟨by show 2 ≤ sizeLine; decide, fun t nt => ?_⟩
  have hl2 : xs.length < sizeLine := by rw [sizeLine_eq]; omega
  wtm_at "vc"
  refine k _ _ _ (by simp) ((s.new nt).app hp (SqT.of upd_same) ?_ ?_ m0 m1)
  · split <;> omega
  · split <;> omega
theorem PoolAt.other {H : Hp} {p q : Addr} (h : PoolAt H p) (n : H q = none) : q ≠ p := let ⟨_, h⟩ := h.lst; R.ne_of_some h n
/-- menu[_law_take(pool, many)] -/
theorem menuTake {K : PySem.W.Frag} {H : Hp} {Q : VK} {E : XK} {p m : Addr} {many : Int} (ns : List Int) (P : Int → Prop) (hp : PoolAt H p) (nm : H m = none) (hl : many = (ns.length : Int)) (m0 : 0 < many) (m1 : many < 4611686018427387904) (hn : ∀ n ∈ ns, P n)
    (k : ∀ n H2, P n → PoolAt H2 p → R.ExB p H H2 → Q (.int n) H2) : sp_law_take K [.ref p, .int many] (upd H m (.lst (ns.map V.int))) (fun y H2 => rIx K (.ref m) y H2 Q) E := by
  refine ⟨p, many, rfl, hp.old nm, m0, m1, fun r H2 r0 r1 p2 e2 => ?_⟩
  have hm := e2 _ _ (hp.other nm) (upd_same (o := .lst (ns.map V.int)))
  exact R.menu P (SqL.of hm) rfl r0 (hl ▸ r1) hn fun n h => k n H2 h p2 ((R.ExB.new nm).tr e2)
theorem sz_mid {K : PySem.W.Frag} {E : XK} {p q : Addr} {H H' : Hp} {xs : List V} {ps : List (Int × Int)} {D : Ends} {pace way many size : Int} {tv : Option V} (s : SzI K p q H H' xs ps) (hp : PoolAt H p) (hl : xs.length < 40) (m0 : 1 ≤ many) (m1 : many ≤ 1000000000) (z0 : 0 ≤ size)
    (k : ∀ many size H2 xs2 ps2, xs2.length = xs.length + 1 → SzI K p q H H2 xs2 ps2 → D.nx [some (.ref p), some (.int pace), tv, some (.ref q), some (.int way), some (.int many), some (.int size)] H2) :
    (tSeq (tIfS (tTest (tOp (U.rEqU K) (tVar 4) (tC (.int 1)))) (tPar 6 5 (tCons (tOp (rIx K) (tLst (tCons (tC (.int 0)) (tCons (tOp U.rPow (tC (.int 10)) (tC (.int 9))) (tCons (tC (.int 7)) tNil)))) (tCall (sp_law_take K) [] E (tCons (tVar 0) (tCons (tC (.int 3)) tNil)))) (tCons (tOp (rIx K) (tLst (tCons (tC (.int 1)) (tCons (tOp U.rPow (tC (.int 10)) (tC (.int 9))) (tCons (tC (.int 5)) tNil)))) (tCall (sp_law_take K) [] E (tCons (tVar 0) (tCons (tC (.int 3)) tNil)))) tNil)))
    tNext)
    (tDrop (tBM K "list" rAppend (tVar 3) (tCons (tTup (tCons (tCB U.rMin2 (tCons (tVar 6) (tCons (tOp U.rPow (tC (.int 10)) (tC (.int 9))) tNil))) (tCons (tVar 5) tNil))) tNil)))) D
      [some (.ref p), some (.int pace), tv, some (.ref q), some (.int way), some (.int many), some (.int size)] H' := by
  refine R.seq ?_
  refine R.ifS ?_
  wtm_at "vc"
  (with_reducible refine R.ifd ?_ ?_) <;> intro h
  · wtm_at "vc"
    refine ⟨by decide, fun m nm => ?_⟩
    wtm_at "vc"
    refine menuTake [0, 1000000000, 7] (fun n => 0 ≤ n) s.pl nm rfl (by decide) (by decide) (by decide) fun n H2 hn p2 e2 => ?_
    have s2 := s.take hp e2 p2
    wtm_at "vc"
    refine ⟨by decide, fun m2 nm2 => ?_⟩
    wtm_at "vc"
    refine menuTake [1, 1000000000, 5] (fun n => 1 ≤ n ∧ n ≤ 1000000000) p2 nm2 rfl (by decide) (by decide) (by decide) fun n2 H3 hn2 p3 e3 => ?_
    have s3 := s2.take hp e3 p3
    refine R.nil ?_
    refine R.exVs2 ?_
    exact sz_tail s3 hp hl hn2.1 hn2.2 hn fun H2 xs2 ps2 a b => k _ _ H2 xs2 ps2 a b
  · refine R.next ?_
    exact sz_tail s hp hl m0 m1 z0 fun H2 xs2 ps2 a b => k _ _ H2 xs2 ps2 a b
theorem rd_law_sizes {K : PySem.W.Frag} (vs : List V) (H : Hp) (Q : VK) (E : XK) (h : sp_law_sizes K vs H Q E) : t_law_sizes K E { nx := fun _ H' => Q .non H', rt := Q } (start ["pool", "pace", "turn", "found", "way", "many", "size"] vs) H := by
  obtain ⟨p, pace, rfl, hp, r0, r1, k⟩ := h
  unfold t_law_sizes
  wtm_at "vc"
  refine ⟨by decide, fun q nq => ?_⟩
  wtm_at "vc"
  refine ⟨p, _, rfl, hp.old nq, by decide, by decide, fun way H1 w0 w1 p1 e1 => ?_⟩
  have s1 : SzI K p q H (upd H q (.lst [])) [] [] := ⟨R.ExB.new nq, hp.old nq, nq, upd_same, ⟨rfl, fun i p h => by simp at h⟩, fun _ h => by simp at h⟩
  have s2 := s1.take hp e1 p1
  wtm_at "vc"
  refine ⟨by decide, fun m nm => ?_⟩
  wtm_at "vc"
  refine menuTake [0, 1, 2, 5, 12, 30] (fun n => 0 ≤ n ∧ n ≤ 30) p1 nm rfl (by decide) (by decide) (by decide) fun n H2 hn p2 e2 => ?_
  have s3 := s2.take hp e2 p2
  refine R.rngP (by omega) (by omega) (fun i σ H' => ∃ tv u5 u6 xs ps, σ = [some (.ref p), some (.int pace), tv, some (.ref q), some (.int way), u5, u6] ∧ SzI K p q H H' xs ps ∧ xs.length = i) ⟨none, none, none, [], [], rfl, s3, rfl⟩ ?_ ?_
  · rintro i σ H3 hi ⟨tv, u5, u6, xs, ps, rfl, s, hl⟩
    wtm_at "vc"
    refine ⟨p, _, rfl, s.pl, by decide, by decide, fun a H4 a0 a1 p4 e4 => ?_⟩
    have t4 := s.take hp e4 p4
    wtm_at "vc"
    refine ⟨p, _, rfl, t4.pl, by decide, by decide, fun b H5 b0 b1 p5 e5 => ?_⟩
    have t5 := t4.take hp e5 p5
    wtm_at "vc"
    have hmul : 0 ≤ pace * (1 + a) := Int.mul_nonneg r0 (by omega)
    have hmul2 : pace * (1 + a) ≤ 1000000000 * 8 := Int.mul_le_mul r1 (by omega) (by omega) (by decide)
    generalize pace * (1 + a) = pm at *
    generalize hsz : (if pm + b - 20 > 0 then pm + b - 20 else 0) = sz
    have sz0 : 0 ≤ sz := by rw [← hsz]; split <;> omega
    have done : ∀ many size H2 xs2 ps2, xs2.length = xs.length + 1 → SzI K p q H H2 xs2 ps2 → ∃ tv u5 u6 xs ps, [some (V.ref p), some (.int pace), some (.int (i : Nat)), some (.ref q), some (.int way), some (.int many), some (.int size)] = [some (.ref p), some (.int pace), tv, some (.ref q), some (.int way), u5, u6] ∧ SzI K p q H H2 xs ps ∧ xs.length = i + 1 :=
      fun many size H2 xs2 ps2 h1 h2 => ⟨_, _, _, xs2, ps2, rfl, h2, by omega⟩
    (with_reducible refine R.ifd ?_ ?_) <;> intro h
    · wtm_at "vc"
      have hd : 0 ≤ 3 * pace * (1 + a) := Int.mul_nonneg (by omega) (by omega)
      have hd2 : 3 * pace * (1 + a) ≤ 3000000000 * 8 := Int.mul_le_mul (by omega) (by omega) (by omega) (by decide)
      refine ⟨p, _, rfl, t5.pl, by omega, by omega, fun d H6 d0 d1 p6 e6 => ?_⟩
      have t6 := t5.take hp e6 p6
      wtm_at "vc"
      refine ⟨by show 3 ≤ sizeLine; decide, fun m3 nm3 => ?_⟩
      wtm_at "vc"
      refine menuTake [0, sz, d] (fun n => 0 ≤ n) p6 nm3 rfl (by decide) (by decide) (by intro n hn; simp at hn; rcases hn with h | h | h <;> omega) fun n H7 hn p7 e7 => ?_
      have t7 := t6.take hp e7 p7
      exact sz_mid t7 hp (by omega) (by omega) (by omega) hn done
    · exact sz_mid t5 hp (by omega) (by omega) (by omega) sz0 done
  · rintro σ H3 ⟨tv, u5, u6, xs, ps, rfl, s, hl⟩
    wtm_at "vc"
    exact k _ _ _ _ s.e s.pl s.n s.q s.pr s.ok (by omega)

/-! rows as data -/
def pd (p : Int × Int) : PyData := .tuple [.int p.1, .int p.2]
theorem pd_lay : ∀ ps : List (Int × Int), PyData.canLayAll0 (ps.map pd) = true
  | [] => rfl
  | p :: ps => by
    show (PyData.canLay0 (pd p) && PyData.canLayAll0 (ps.map pd)) = true
    rw [pd_lay ps]; rfl
theorem pd_depth : ∀ ps : List (Int × Int), PyData.depthAll (ps.map pd) ≤ 1
  | [] => by decide
  | p :: ps => by
    show max (PyData.depth (pd p)) (PyData.depthAll (ps.map pd)) ≤ 1
    exact Nat.max_le.mpr ⟨by show max 0 (max 0 0) + 1 ≤ 1; decide, pd_depth ps⟩
theorem pd_shaped (ps : List (Int × Int)) : SeqAt.shaped (.list (ps.map pd)) = true := by
  refine Bool.and_eq_true_iff.mpr ⟨pd_lay ps, decide_eq_true ?_⟩
  show PyData.depthAll (ps.map pd) + 1 ≤ 64
  have := pd_depth ps
  omega
theorem pd_eqv (ps : List (Int × Int)) : PyData.eqv (.list (ps.map pd)) (.list (ps.map pd)) = true := SeqAt.eqv_refl _ (pd_lay ps)
theorem Prs.dp {K : PySem.W.Frag} {H : Hp} : ∀ {ps : List (Int × Int)} {xs : List V}, Prs K H xs ps → DpAll K H xs (ps.map pd)
  | [], [], _ => .nil
  | [], x :: xs, h => by have := h.len; simp at this
  | p :: ps, [], h => by have := h.len; simp at this
  | p :: ps, x :: xs, h => by
    obtain ⟨t, h1, h2⟩ := h.at_ 0 p rfl
    cases h1
    refine .cons (.tup h2 (.cons (.int _) (.cons (.int _) .nil))) (Prs.dp ⟨by have := h.len; simpa using this, fun i q hq => h.at_ (i + 1) q (by simpa using hq)⟩)
/-- list(given) != rows -/
theorem rows_same {K : PySem.W.Frag} {H : Hp} {Q : VK} {a b : Addr} {xs : List V} {ps : List (Int × Int)} (h : Prs K H xs ps) (ha : SqL K H a xs) (hb : SqL K H b xs) (q : Q (.bl false) H) : U.rNeU K (.ref a) (.ref b) H Q := by
  refine R.nuD (.lst ha h.dp) (.lst hb h.dp) (pd_shaped _) (pd_shaped _) ?_
  rw [pd_eqv]
  exact q
theorem rows_eq {K : PySem.W.Frag} {H : Hp} {Q : VK} {a b : Addr} {xs : List V} {ps : List (Int × Int)} (h : Prs K H xs ps) (ha : SqL K H a xs) (hb : SqL K H b xs) (q : Q (.bl true) H) : U.rEqU K (.ref a) (.ref b) H Q := by
  refine R.euD (.lst ha h.dp) (.lst hb h.dp) (pd_shaped _) (pd_shaped _) ?_
  rw [pd_eqv]
  exact q
/-! the plain law: least -/
theorem ld_le (r : Int) : ∀ (ps : List (Int × Int)) (f t d w : Int), ld r ps f t d ≤ w ↔ f ≤ w ∧ inT r ps t (w + d) = true
  | [], f, t, d, w => by show f ≤ w ↔ f ≤ w ∧ true = true; simp
  | p :: ps, f, t, d, w => by
    show ld r ps (if t + p.1 - d > f then t + p.1 - d else f) (t + p.1) (d + r * p.2) ≤ w ↔ f ≤ w ∧ (if t + p.1 > w + d then false else inT r ps (t + p.1) (w + d + r * p.2)) = true
    rw [ld_le r ps, Int.add_assoc w d]
    by_cases h : t + p.1 > w + d
    · rw [if_pos h]
      constructor
      · rintro ⟨h1, _⟩; split at h1 <;> omega
      · rintro ⟨_, h2⟩; cases h2
    · rw [if_neg h]
      constructor
      · rintro ⟨h1, h2⟩; refine ⟨?_, h2⟩; split at h1 <;> omega
      · rintro ⟨h1, h2⟩; refine ⟨?_, h2⟩; split <;> omega
theorem ld_ge (r : Int) (ps : List (Int × Int)) : 0 ≤ ld r ps 0 0 0 := ((ld_le r ps 0 0 0 _).mp (Int.le_refl _)).1
theorem ld_in (r : Int) (ps : List (Int × Int)) : inT r ps 0 (ld r ps 0 0 0) = true := by
  have := ((ld_le r ps 0 0 0 _).mp (Int.le_refl _)).2
  rwa [Int.add_zero] at this
theorem ld_less (r : Int) (ps : List (Int × Int)) (h : 0 < ld r ps 0 0 0) : inT r ps 0 (ld r ps 0 0 0 - 1) = false := by
  cases e : inT r ps 0 (ld r ps 0 0 0 - 1) with
  | false => rfl
  | true =>
    have := (ld_le r ps 0 0 0 (ld r ps 0 0 0 - 1)).mpr ⟨by omega, by rwa [Int.add_zero]⟩
    omega

/-! _law_same of two values with the same data -/
def sp_law_same (K : PySem.W.Frag) : Nat → Sp
  | 0 => fun _ _ _ _ => False
  | n + 1 => fun vs H Q _ => ∃ x y d, vs = [x, y] ∧ Dp K H x d ∧ Dp K H y d ∧ PyData.depth d ≤ n ∧ ∀ H', R.Ex H H' → Q (.bl true) H'
theorem len_law_same {K : PySem.W.Frag} {n : Nat} (vs : List V) (H : Hp) (Q : VK) (E : XK) (h : sp_law_same K n vs H Q E) : vs.length = (["actual", "due"] : List Str).length := by
  cases n with
  | zero => exact h.elim
  | succ n => obtain ⟨x, y, d, rfl, _⟩ := h; rfl
mutual
theorem dp_ex {K : PySem.W.Frag} {H H' : Hp} (e : R.Ex H H') : ∀ {d : PyData} {v : V}, Dp K H v d → Dp K H' v d
  | _, _, .non => .non
  | _, _, .bl b => .bl b
  | _, _, .int i => .int i
  | _, _, .str x => .str x
  | _, _, .lst h hs => .lst (e.l h) (dpAll_ex e hs)
  | _, _, .tup h hs => .tup (e.t h) (dpAll_ex e hs)
theorem dpAll_ex {K : PySem.W.Frag} {H H' : Hp} (e : R.Ex H H') : ∀ {ds : List PyData} {vs : List V}, DpAll K H vs ds → DpAll K H' vs ds
  | _, _, .nil => .nil
  | _, _, .cons h hs => .cons (dp_ex e h) (dpAll_ex e hs)
end
theorem dpAll_len {K : PySem.W.Frag} {H : Hp} : ∀ {ds : List PyData} {vs : List V}, DpAll K H vs ds → vs.length = ds.length
  | _, _, .nil => rfl
  | _, _, .cons _ hs => by simp [dpAll_len hs]
theorem dpAll_at {K : PySem.W.Frag} {H : Hp} {x : V} : ∀ {ds : List PyData} {vs : List V} {i : Nat}, DpAll K H vs ds → vs[i]? = some x → ∃ d, ds[i]? = some d ∧ Dp K H x d
  | _, _, _, .nil, h => by cases h
  | _, _, 0, .cons h hs, e => by cases e; exact ⟨_, rfl, h⟩
  | _, _, i + 1, .cons h hs, e => by
    obtain ⟨d, h1, h2⟩ := dpAll_at hs (by simpa using e)
    exact ⟨d, by simpa using h1, h2⟩
theorem depth_at : ∀ {ds : List PyData} {i : Nat} {d : PyData}, ds[i]? = some d → PyData.depth d ≤ PyData.depthAll ds
  | _ :: _, 0, d, e => by cases e; exact Nat.le_max_left _ _
  | _ :: ds, i + 1, d, e => Nat.le_trans (depth_at (ds := ds) (i := i) (by simpa using e)) (Nat.le_max_right _ _)
def t_law_same (K : PySem.W.Frag) (n : Nat) (E : XK) : TS :=
  (tSeq (tIfS (tB (tIsN (tVar 1))) (tRet (tIsN (tVar 0)))
    tNext)
    (tSeq (tIfS (tB (tCB (rIsi K) (tCons (tVar 1) (tCons (tC (.ty "bool")) tNil)))) (tRet (tAndV (tCB (rIsi K) (tCons (tVar 0) (tCons (tC (.ty "bool")) tNil))) (tOp (U.rEqU K) (tVar 0) (tVar 1))))
    tNext)
    (tSeq (tIfS (tB (tCB (rIsi K) (tCons (tVar 1) (tCons (tC (.ty "int")) tNil)))) (tRet (tAndV (tCB (rIsi K) (tCons (tVar 0) (tCons (tC (.ty "int")) tNil))) (tAndV (tNotV (tCB (rIsi K) (tCons (tVar 0) (tCons (tC (.ty "bool")) tNil)))) (tOp (U.rEqU K) (tVar 0) (tVar 1)))))
    tNext)
    (tSeq (tIfS (tB (tCB (rIsi K) (tCons (tVar 1) (tCons (tC (.ty "str")) tNil)))) (tRet (tAndV (tCB (rIsi K) (tCons (tVar 0) (tCons (tC (.ty "str")) tNil))) (tOp (U.rEqU K) (tVar 0) (tVar 1))))
    tNext)
    (tSeq (tIfS (tAnd (tB (tCB (rIsi K) (tCons (tVar 1) (tCons (tC (.ty "list")) tNil)))) (tNot (tB (tCB (rIsi K) (tCons (tVar 0) (tCons (tC (.ty "list")) tNil)))))) (tRet (tC (.bl false)))
    tNext)
    (tSeq (tIfS (tAnd (tB (tCB (rIsi K) (tCons (tVar 1) (tCons (tC (.ty "tuple")) tNil)))) (tNot (tB (tCB (rIsi K) (tCons (tVar 0) (tCons (tC (.ty "tuple")) tNil)))))) (tRet (tC (.bl false)))
    tNext)
    (tSeq (tIfS (tTest (tOp (U.rNeU K) (tCB (U.rLen K) (tCons (tVar 0) tNil)) (tCB (U.rLen K) (tCons (tVar 1) tNil)))) (tRet (tC (.bl false)))
    tNext)
    (tSeq (tFor (RZ.iZipA K (tCons (tVar 0) (tCons (tVar 1) tNil))) (gTup K 2 (gCons (gName 2) (gCons (gName 3) gNil)))
    (tIfS (tNot (tB (tCall (sp_law_same K n) [] E (tCons (tVar 2) (tCons (tVar 3) tNil))))) (tRet (tC (.bl false)))
    tNext))
    (tRet (tC (.bl true)))))))))))
/-- the last part: two rows of the same kind -/
theorem same_rows {K : PySem.W.Frag} {n : Nat} {E : XK} {l : Bool} {a b : Addr} {xs ys : List V} {ds : List PyData} {H : Hp} {D : Ends} (h1 : R.SqK K l H a xs) (h2 : R.SqK K l H b ys) (d1 : DpAll K H xs ds) (d2 : DpAll K H ys ds) (hn : PyData.depthAll ds + 1 ≤ n) (k : ∀ H', R.Ex H H' → D.rt (.bl true) H') :
    (tSeq (tFor (RZ.iZipA K (tCons (tVar 0) (tCons (tVar 1) tNil))) (gTup K 2 (gCons (gName 2) (gCons (gName 3) gNil)))
    (tIfS (tNot (tB (tCall (sp_law_same K n) [] E (tCons (tVar 2) (tCons (tVar 3) tNil))))) (tRet (tC (.bl false)))
    tNext))
    (tRet (tC (.bl true)))) D [some (.ref a), some (.ref b), none, none] H := by
  obtain ⟨m, rfl⟩ : ∃ m, n = m + 1 := ⟨n - 1, by omega⟩
  have hl : xs.length = ys.length := by rw [dpAll_len d1, dpAll_len d2]
  refine R.seq ?_
  refine R.forZip rfl rfl h1 h2 hl (fun _ σ H' => ∃ u v, σ = [some (.ref a), some (.ref b), u, v] ∧ R.Ex H H') ⟨none, none, rfl, R.Ex.refl H⟩ (fun i σ H2 ⟨_, _, _, e⟩ => ⟨e.k h1, e.k h2⟩) ?_ ?_
  · rintro i x y T σ H2 hx hy ⟨u, v, rfl, e2⟩ nT
    obtain ⟨d, hd, hdx⟩ := dpAll_at d1 hx
    obtain ⟨d', hd', hdy⟩ := dpAll_at d2 hy
    rw [hd] at hd'
    cases hd'
    have e3 := e2.tr (R.Ex.new (o := .tup [x, y]) nT)
    wtm_at "vc"
    refine ⟨x, y, d, rfl, dp_ex e3 hdx, dp_ex e3 hdy, by have := depth_at hd; omega, fun H4 e4 => ?_⟩
    wtm_at "vc"
    exact ⟨_, _, rfl, e3.tr e4⟩
  · rintro σ H2 ⟨u, v, rfl, e2⟩
    wtm_at "vc"
    exact k _ e2
theorem rd_law_same {K : PySem.W.Frag} {n : Nat} (vs : List V) (H : Hp) (Q : VK) (E : XK) (h : sp_law_same K (n + 1) vs H Q E) : t_law_same K n E { nx := fun _ H' => Q .non H', rt := Q } (start ["actual", "due", "one", "other"] vs) H := by
  obtain ⟨x, y, d, rfl, hx, hy, hn, k⟩ := h
  unfold t_law_same
  have kr := k H (R.Ex.refl H)
  cases hx with
  | non => cases hy; wtm_at "vc"; exact kr
  | bl b =>
    cases hy
    wtm_at "vc"
    exact R.euD (.bl b) (.bl b) rfl rfl (by rw [SeqAt.eqv_refl _ rfl]; exact kr)
  | int i =>
    cases hy
    wtm_at "vc"
    have e : decide (i = i) = true := by simp
    rw [e]
    exact kr
  | str s =>
    cases hy
    wtm_at "vc"
    have e : decide (s = s) = true := by simp
    rw [e]
    exact kr
  | lst h1 d1 =>
    cases hy with
    | lst h2 d2 =>
      wtm_at "vc"
      refine R.iteFr (by rw [dpAll_len d1, dpAll_len d2]; simp) ?_
      refine R.next ?_
      exact same_rows (l := true) h1 h2 d1 d2 hn k
  | tup h1 d1 =>
    cases hy with
    | tup h2 d2 =>
      wtm_at "vc"
      refine R.iteFr (by rw [dpAll_len d1, dpAll_len d2]; simp) ?_
      refine R.next ?_
      exact same_rows (l := false) h1 h2 d1 d2 hn k

/-! padding -/
inductive PadR where
  | pair (a b : Int)
  | row (l : List Int)
def padR (r st : Int) (n : Nat) : List (Int × Int) → Nat → Int → Int → Int → List Int → PadR
  | [], _, _, _, _, acc => .row acc
  | p :: ps, i, t, a, f, acc =>
    let late := a + r * p.2
    let add := if (i : Int) + 1 < (n : Int) then (if late - (t + p.1) - st > 0 then late - (t + p.1) - st else 0) else 0
    if t + p.1 + add > a then .pair f i
    else padR r st n ps (i + 1) (t + p.1 + add) late (if add > 0 then (i : Int) + 1 else f) (acc ++ [add])
def PadAt (K : PySem.W.Frag) (H : Hp) (v : V) : PadR → Prop
  | .pair a b => ∃ t, v = .ref t ∧ H t = some (.tup [.int a, .int b])
  | .row l => ∃ t, v = .ref t ∧ H t = some (.lst (l.map V.int))
def NewV (H : Hp) (v : V) : Prop := ∀ t, v = .ref t → H t = none
theorem NewV.mk {H H' : Hp} {t : Addr} (e : R.Ex H H') (n : H' t = none) : NewV H (.ref t) := fun t2 h => by cases h; exact e.free n
def sp_padding (K : PySem.W.Frag) : Sp := fun vs H Q _ => ∃ l a r dl st xs ps, vs = [.ref a, .int r, .int dl, .int st] ∧ 0 ≤ r ∧ r ≤ 1000000000 ∧ 0 ≤ dl ∧ dl ≤ 1000000000 ∧ 0 ≤ st ∧ st ≤ 1000000000 ∧ R.SqK K l H a xs ∧ Prs K H xs ps ∧ POk ps ∧ ps.length ≤ 1000000 ∧
  ∀ v H', R.Ex H H' → NewV H v → PadAt K H' v (padR r st ps.length ps 0 0 dl 0 []) → Q v H'
theorem len_padding {K : PySem.W.Frag} (vs : List V) (H : Hp) (Q : VK) (E : XK) (h : sp_padding K vs H Q E) : vs.length = (["sizes", "rate", "delay", "store"] : List Str).length := by
  obtain ⟨_, _, _, _, _, _, _, rfl, _⟩ := h; rfl
def t_padding (K : PySem.W.Frag) (E : XK) : TS :=
  (tSeq (tDrop (tCall (sp_require_sizes K) [] E (tCons (tVar 0) tNil)))
    (tSeq (tFor (U.iSeq K (tTup (tCons (tVar 1) (tCons (tVar 2) (tCons (tVar 3) tNil))))) (gName 4)
    (tDrop (tCall (sp_require_number K) [] E (tCons (tVar 4) tNil))))
    (tSeq (tAsg (tLst tNil) (gName 5))
    (tSeq (tPar3 6 7 8 (tCons (tC (.int 0)) (tCons (tVar 2) (tCons (tC (.int 0)) tNil))))
    (tSeq (tFor (U.iEn K (tCons (tVar 0) tNil)) (gTup K 2 (gCons (gName 9) (gCons (gTup K 2 (gCons (gName 12) (gCons (gName 13) gNil))) gNil)))
    (tSeq (tAug 6 (tVar 12) U.rIpAdd)
    (tSeq (tAsg (tOp (U.rAdd K) (tVar 7) (tOp U.rMul (tVar 1) (tVar 13))) (gName 10))
    (tSeq (tAsg (tIf (tTest (tOp U.rLt (tOp (U.rAdd K) (tVar 9) (tC (.int 1))) (tCB (U.rLen K) (tCons (tVar 0) tNil)))) (tCB U.rMax2 (tCons (tC (.int 0)) (tCons (tOp U.rSub (tOp U.rSub (tVar 10) (tVar 6)) (tVar 3)) tNil))) (tC (.int 0))) (gName 11))
    (tSeq (tAug 6 (tVar 11) U.rIpAdd)
    (tSeq (tIfS (tTest (tOp U.rGt (tVar 6) (tVar 7))) (tRet (tTup (tCons (tVar 8) (tCons (tVar 9) tNil))))
    tNext)
    (tSeq (tIfS (tTest (tOp U.rGt (tVar 11) (tC (.int 0)))) (tAsg (tOp (U.rAdd K) (tVar 9) (tC (.int 1))) (gName 8))
    tNext)
    (tSeq (tDrop (tBM K "list" rAppend (tVar 5) (tCons (tVar 11) tNil)))
    (tAsg (tVar 10) (gName 7))))))))))
    (tRet (tVar 5)))))))
theorem map_snoc (l : List Int) (a : Int) : l.map V.int ++ [V.int a] = (l ++ [a]).map V.int := by simp
theorem pad_tail {H : Hp} {D : Ends} {q : Addr} {xa xr xd xs xv u12 u13 : Option V} {t ar f late add : Int} {i : Nat} {acc : List Int} {K : PySem.W.Frag} (hq : H q = some (.lst (acc.map V.int))) (hl : acc.length < 2000000)
    (h1 : t + add > ar → ∀ T, H T = none → D.rt (.ref T) (upd H T (.tup [.int f, .int i])))
    (h2 : ¬ t + add > ar → D.nx [xa, xr, xd, xs, xv, some (.ref q), some (.int (t + add)), some (.int late), some (.int (if add > 0 then (i : Int) + 1 else f)), some (.int i), some (.int late), some (.int add), u12, u13] (upd H q (.lst ((acc ++ [add]).map V.int)))) :
    (tSeq (tAug 6 (tVar 11) U.rIpAdd)
    (tSeq (tIfS (tTest (tOp U.rGt (tVar 6) (tVar 7))) (tRet (tTup (tCons (tVar 8) (tCons (tVar 9) tNil))))
    tNext)
    (tSeq (tIfS (tTest (tOp U.rGt (tVar 11) (tC (.int 0)))) (tAsg (tOp (U.rAdd K) (tVar 9) (tC (.int 1))) (gName 8))
    tNext)
    (tSeq (tDrop (tBM K "list" rAppend (tVar 5) (tCons (tVar 11) tNil)))
    (tAsg (tVar 10) (gName 7)))))) D [xa, xr, xd, xs, xv, some (.ref q), some (.int t), some (.int ar), some (.int f), some (.int i), some (.int late), some (.int add), u12, u13] H := by
  have hl2 : (acc.map V.int).length < sizeLine := by rw [sizeLine_eq, List.length_map]; omega
  rw [← map_snoc] at h2
  wtm_at "vc"
  (with_reducible refine R.ifd ?_ ?_) <;> intro h
  · wtm_at "vc"
    exact ⟨by show 2 ≤ sizeLine; decide, fun T nT => h1 h T nT⟩
  · wtm_at "vc"
    (with_reducible refine R.ifd ?_ ?_) <;> intro h3
    · rw [if_pos h3] at h2
      wtm_at "vc"
      exact h2 h
    · rw [if_neg h3] at h2
      wtm_at "vc"
      exact h2 h
theorem rd_padding {K : PySem.W.Frag} (vs : List V) (H : Hp) (Q : VK) (E : XK) (h : sp_padding K vs H Q E) : t_padding K E { nx := fun _ H' => Q .non H', rt := Q } (start ["sizes", "rate", "delay", "store", "value", "found", "total", "arrived", "first", "frame", "later", "added", "size", "length"] vs) H := by
  obtain ⟨l, a, r, dl, st, xs, ps, rfl, r0, r1, d0, d1, s0, s1, hs, hp, hk, hlen, k⟩ := h
  unfold t_padding
  wtm_at "vc"
  refine ⟨l, a, xs, ps, rfl, hs, hp, hk, fun H1 e1 => ?_⟩
  wtm_at "vc"
  refine R.forTe ?_
  wtm_at "vc"
  refine ⟨by show 3 ≤ sizeLine; decide, fun T nT => ?_⟩
  have e2 := e1.tr (R.Ex.new (o := .tup [.int r, .int dl, .int st]) nT)
  have hT : (upd H1 T (.tup [.int r, .int dl, .int st])) T = some (.tup [.int r, .int dl, .int st]) := upd_same
  generalize upd H1 T (.tup [.int r, .int dl, .int st]) = H2 at *
  refine R.tupP (SqT.of hT) (fun _ σ H' => ∃ v, σ = [some (.ref a), some (.int r), some (.int dl), some (.int st), v, none, none, none, none, none, none, none, none, none] ∧ H' = H2) ⟨none, rfl, rfl⟩ (fun i σ H3 _ ⟨_, _, e⟩ => e ▸ SqT.of hT) ?_ ?_
  · rintro i x σ H3 hx ⟨v, rfl, rfl⟩
    have hz : ∃ z, x = .int z ∧ 0 ≤ z ∧ z ≤ 1000000000 := by
      match i, hx with
      | 0, h => exact ⟨r, (Option.some.inj h).symm, r0, r1⟩
      | 1, h => exact ⟨dl, (Option.some.inj h).symm, d0, d1⟩
      | 2, h => exact ⟨st, (Option.some.inj h).symm, s0, s1⟩
      | n + 3, h => simp at h
    obtain ⟨z, rfl, z0, z1⟩ := hz
    wtm_at "vc"
    refine ⟨z, rfl, z0, z1, ?_⟩
    exact ⟨_, rfl, rfl⟩
  rintro σ H3 ⟨v, rfl, rfl⟩
  wtm_at "vc"
  refine ⟨by decide, fun q nq => ?_⟩
  wtm_at "vc"
  have e3 := e2.tr (R.Ex.new (o := .lst []) nq)
  refine R.forEn rfl (e3.k hs) (fun i σ H' => ∃ t ar f u9 u10 u11 u12 u13 acc, σ = [some (.ref a), some (.int r), some (.int dl), some (.int st), v, some (.ref q), some (.int t), some (.int ar), some (.int f), u9, u10, u11, u12, u13] ∧ R.Ex H H' ∧ H' q = some (.lst (acc.map V.int)) ∧ acc.length = i ∧ padR r st ps.length (ps.drop i) i t ar f acc = padR r st ps.length ps 0 0 dl 0 [])
    ⟨0, dl, 0, none, none, none, none, none, [], rfl, e3, upd_same, rfl, rfl⟩ (fun i σ H2 _ ⟨_, _, _, _, _, _, _, _, _, _, e, _⟩ => e.k hs) ?_ ?_
  · rintro i x T2 σ H4 hx ⟨t, ar, f, u9, u10, u11, u12, u13, acc, rfl, e4, hq, ha, eq⟩ nT2
    obtain ⟨p, tt, hp2, rfl, ht⟩ := (hp.ex e4).get hx
    rw [R.drop_cons hp2] at eq
    have e5 := e4.tr (R.Ex.new (o := .tup [.int (i : Nat), .ref tt]) nT2)
    have hq2 : (upd H4 T2 (.tup [.int (i : Nat), .ref tt])) q = some (.lst (acc.map V.int)) := R.updOld nT2 hq
    have ht2 := (R.Ex.new (o := .tup [.int (i : Nat), .ref tt]) nT2).t ht
    have hT2 : (upd H4 T2 (.tup [.int (i : Nat), .ref tt])) T2 = some (.tup [.int (i : Nat), .ref tt]) := upd_same
    have hs5 := e5.k hs
    generalize upd H4 T2 (.tup [.int (i : Nat), .ref tt]) = H5 at *
    wtm_at "vc"
    have acc_le : acc.length < 1000000 := by have := (List.getElem?_eq_some_iff.mp hp2).1; omega
    have fin : ∀ add : Int, add = (if (i : Int) + 1 < (ps.length : Int) then (if ar + r * p.2 - (t + p.1) - st > 0 then ar + r * p.2 - (t + p.1) - st else 0) else 0) →
        (if t + p.1 + add > ar then PadR.pair f i else padR r st ps.length (ps.drop (i + 1)) (i + 1) (t + p.1 + add) (ar + r * p.2) (if add > 0 then (i : Int) + 1 else f) (acc ++ [add])) = padR r st ps.length ps 0 0 dl 0 [] := by
      rintro add rfl; exact eq
    (with_reducible refine R.ifd ?_ ?_) <;> intro h
    · wtm_at "vs"
      have fin := fin _ (by rw [if_pos (by rw [← hp.len]; exact h)])
      refine pad_tail hq2 (by omega) (fun h T nT => ?_) (fun h => ?_)
      · rw [if_pos h] at fin
        refine k _ _ (e5.tr (R.Ex.new nT)) (NewV.mk e5 nT) ?_
        rw [← fin]
        exact ⟨T, rfl, upd_same⟩
      · rw [if_neg h] at fin
        exact ⟨_, _, _, _, _, _, _, _, _, rfl, e5.mut (e2.free nq), upd_same, by simp [ha], fin⟩
    · wtm_at "vs"
      have fin := fin 0 (by rw [if_neg (by rw [← hp.len]; exact h)])
      refine pad_tail hq2 (by omega) (fun h T nT => ?_) (fun h => ?_)
      · rw [if_pos h] at fin
        refine k _ _ (e5.tr (R.Ex.new nT)) (NewV.mk e5 nT) ?_
        rw [← fin]
        exact ⟨T, rfl, upd_same⟩
      · rw [if_neg h] at fin
        exact ⟨_, _, _, _, _, _, _, _, _, rfl, e5.mut (e2.free nq), upd_same, by simp [ha], fin⟩
  · rintro σ H4 ⟨t, ar, f, u9, u10, u11, u12, u13, acc, rfl, e4, hq, ha, eq⟩
    rw [hp.len, List.drop_length] at eq
    wtm_at "vc"
    refine k _ _ e4 (NewV.mk e2 nq) ?_
    rw [← eq]
    exact ⟨q, rfl, hq⟩
def sp_law_padding (K : PySem.W.Frag) : Sp := fun vs H Q _ => ∃ a r dl st xs ps, vs = [.ref a, .int r, .int dl, .int st] ∧ 0 ≤ r ∧ r ≤ 1000000000 ∧ SqL K H a xs ∧ Prs K H xs ps ∧ ps.length ≤ 1000000 ∧
  ∀ v H', R.Ex H H' → NewV H v → PadAt K H' v (padR r st ps.length ps 0 0 dl 0 []) → Q v H'
theorem len_law_padding {K : PySem.W.Frag} (vs : List V) (H : Hp) (Q : VK) (E : XK) (h : sp_law_padding K vs H Q E) : vs.length = (["parts", "pace", "waits", "room"] : List Str).length := by
  obtain ⟨_, _, _, _, _, _, rfl, _⟩ := h; rfl
theorem law_pad_tail {H : Hp} {D : Ends} {q : Addr} {xa xr xd xs u9 : Option V} {t ar f late add : Int} {i : Nat} {acc : List Int} {K : PySem.W.Frag} (hq : H q = some (.lst (acc.map V.int))) (hl : acc.length < 2000000)
    (h1 : t + add > ar → ∀ T, H T = none → D.rt (.ref T) (upd H T (.tup [.int f, .int i])))
    (h2 : ¬ t + add > ar → D.nx [xa, xr, xd, xs, some (.ref q), some (.int (t + add)), some (.int late), some (.int (if add > 0 then (i : Int) + 1 else f)), some (.int i), u9, some (.int late), some (.int add)] (upd H q (.lst ((acc ++ [add]).map V.int)))) :
    (tSeq (tAsg (tOp (U.rAdd K) (tVar 5) (tVar 11)) (gName 5))
    (tSeq (tIfS (tTest (tOp U.rGt (tVar 5) (tVar 6))) (tRet (tTup (tCons (tVar 7) (tCons (tVar 8) tNil))))
    tNext)
    (tSeq (tIfS (tTest (tOp U.rGt (tVar 11) (tC (.int 0)))) (tAsg (tOp (U.rAdd K) (tVar 8) (tC (.int 1))) (gName 7))
    tNext)
    (tSeq (tDrop (tBM K "list" rAppend (tVar 4) (tCons (tVar 11) tNil)))
    (tAsg (tVar 10) (gName 6)))))) D [xa, xr, xd, xs, some (.ref q), some (.int t), some (.int ar), some (.int f), some (.int i), u9, some (.int late), some (.int add)] H := by
  have hl2 : (acc.map V.int).length < sizeLine := by rw [sizeLine_eq, List.length_map]; omega
  rw [← map_snoc] at h2
  wtm_at "vc"
  (with_reducible refine R.ifd ?_ ?_) <;> intro h
  · wtm_at "vc"
    exact ⟨by show 2 ≤ sizeLine; decide, fun T nT => h1 h T nT⟩
  · wtm_at "vc"
    (with_reducible refine R.ifd ?_ ?_) <;> intro h3
    · rw [if_pos h3] at h2
      wtm_at "vc"
      exact h2 h
    · rw [if_neg h3] at h2
      wtm_at "vc"
      exact h2 h
def t_law_padding (K : PySem.W.Frag) (E : XK) : TS :=
  (tSeq (tAsg (tTup (tCons (tLst tNil) (tCons (tC (.int 0)) (tCons (tVar 2) (tCons (tC (.int 0)) tNil))))) (gTup K 4 (gCons (gName 4) (gCons (gName 5) (gCons (gName 6) (gCons (gName 7) gNil))))))
    (tSeq (tFor (U.iEn K (tCons (tVar 0) tNil)) (gTup K 2 (gCons (gName 8) (gCons (gName 9) gNil)))
    (tSeq (tPar3 5 10 11 (tCons (tOp (U.rAdd K) (tVar 5) (tOp (rIx K) (tVar 9) (tC (.int 0)))) (tCons (tOp (U.rAdd K) (tVar 6) (tOp U.rMul (tVar 1) (tOp (rIx K) (tVar 9) (tC (.int 1))))) (tCons (tC (.int 0)) tNil))))
    (tSeq (tIfS (tTest (tOp U.rLt (tOp (U.rAdd K) (tVar 8) (tC (.int 1))) (tCB (U.rLen K) (tCons (tVar 0) tNil)))) (tAsg (tCB U.rMax2 (tCons (tC (.int 0)) (tCons (tOp U.rSub (tOp U.rSub (tVar 10) (tVar 3)) (tVar 5)) tNil))) (gName 11))
    tNext)
    (tSeq (tAsg (tOp (U.rAdd K) (tVar 5) (tVar 11)) (gName 5))
    (tSeq (tIfS (tTest (tOp U.rGt (tVar 5) (tVar 6))) (tRet (tTup (tCons (tVar 7) (tCons (tVar 8) tNil))))
    tNext)
    (tSeq (tIfS (tTest (tOp U.rGt (tVar 11) (tC (.int 0)))) (tAsg (tOp (U.rAdd K) (tVar 8) (tC (.int 1))) (gName 7))
    tNext)
    (tSeq (tDrop (tBM K "list" rAppend (tVar 4) (tCons (tVar 11) tNil)))
    (tAsg (tVar 10) (gName 6)))))))))
    (tRet (tVar 4))))
theorem rd_law_padding {K : PySem.W.Frag} (vs : List V) (H : Hp) (Q : VK) (E : XK) (h : sp_law_padding K vs H Q E) : t_law_padding K E { nx := fun _ H' => Q .non H', rt := Q } (start ["parts", "pace", "waits", "room", "found", "total", "arrived", "first", "at", "item", "later", "more"] vs) H := by
  obtain ⟨a, r, dl, st, xs, ps, rfl, r0, r1, hs, hp, hlen, k⟩ := h
  unfold t_law_padding
  wtm_at "vc"
  refine ⟨by decide, fun q nq => ?_⟩
  wtm_at "vc"
  refine ⟨by show 4 ≤ sizeLine; decide, fun T nT => ?_⟩
  have e1 : R.Ex H (upd (upd H q (.lst [])) T (.tup [.ref q, .int 0, .int dl, .int 0])) := (R.Ex.new nq).tr (R.Ex.new nT)
  have hq0 : (upd (upd H q (.lst [])) T (.tup [.ref q, .int 0, .int dl, .int 0])) q = some (.lst []) := R.updOld nT upd_same
  have hT0 : (upd (upd H q (.lst [])) T (.tup [.ref q, .int 0, .int dl, .int 0])) T = some (.tup [.ref q, .int 0, .int dl, .int 0]) := upd_same
  generalize upd (upd H q (.lst [])) T (.tup [.ref q, .int 0, .int dl, .int 0]) = H1 at *
  wtm_at "vc"
  refine R.forEn (l := true) rfl (e1.l hs) (fun i σ H' => ∃ t ar f u8 u9 u10 u11 acc, σ = [some (.ref a), some (.int r), some (.int dl), some (.int st), some (.ref q), some (.int t), some (.int ar), some (.int f), u8, u9, u10, u11] ∧ R.Ex H H' ∧ H' q = some (.lst (acc.map V.int)) ∧ acc.length = i ∧ padR r st ps.length (ps.drop i) i t ar f acc = padR r st ps.length ps 0 0 dl 0 [])
    ⟨0, dl, 0, none, none, none, none, [], rfl, e1, hq0, rfl, rfl⟩ (fun i σ H2 _ ⟨_, _, _, _, _, _, _, _, _, e, _⟩ => e.l hs) ?_ ?_
  · rintro i x T2 σ H4 hx ⟨t, ar, f, u8, u9, u10, u11, acc, rfl, e4, hq, ha, eq⟩ nT2
    obtain ⟨p, tt, hp2, rfl, ht⟩ := (hp.ex e4).get hx
    rw [R.drop_cons hp2] at eq
    have e5 := e4.tr (R.Ex.new (o := .tup [.int (i : Nat), .ref tt]) nT2)
    have hq2 : (upd H4 T2 (.tup [.int (i : Nat), .ref tt])) q = some (.lst (acc.map V.int)) := R.updOld nT2 hq
    have ht2 := (R.Ex.new (o := .tup [.int (i : Nat), .ref tt]) nT2).t ht
    have hT2 : (upd H4 T2 (.tup [.int (i : Nat), .ref tt])) T2 = some (.tup [.int (i : Nat), .ref tt]) := upd_same
    have hs5 := e5.l hs
    generalize upd H4 T2 (.tup [.int (i : Nat), .ref tt]) = H5 at *
    have acc_le : acc.length < 1000000 := by have := (List.getElem?_eq_some_iff.mp hp2).1; omega
    have fin : ∀ add : Int, add = (if (i : Int) + 1 < (ps.length : Int) then (if ar + r * p.2 - st - (t + p.1) > 0 then ar + r * p.2 - st - (t + p.1) else 0) else 0) →
        (if t + p.1 + add > ar then PadR.pair f i else padR r st ps.length (ps.drop (i + 1)) (i + 1) (t + p.1 + add) (ar + r * p.2) (if add > 0 then (i : Int) + 1 else f) (acc ++ [add])) = padR r st ps.length ps 0 0 dl 0 [] := by
      rintro add rfl
      have z : ar + r * p.2 - st - (t + p.1) = ar + r * p.2 - (t + p.1) - st := by omega
      rw [z]; exact eq
    wtm_at "vc"
    (with_reducible refine R.ifd ?_ ?_) <;> intro h
    · wtm_at "vs"
      have fin := fin _ (by rw [if_pos (by rw [← hp.len]; exact h)])
      refine law_pad_tail hq2 (by omega) (fun h T nT => ?_) (fun h => ?_)
      · rw [if_pos h] at fin
        refine k _ _ (e5.tr (R.Ex.new nT)) (NewV.mk e5 nT) ?_
        rw [← fin]
        exact ⟨T, rfl, upd_same⟩
      · rw [if_neg h] at fin
        exact ⟨_, _, _, _, _, _, _, _, rfl, e5.mut nq, upd_same, by simp [ha], fin⟩
    · refine R.next ?_
      have fin := fin 0 (by rw [if_neg (by rw [← hp.len]; exact h)])
      refine law_pad_tail hq2 (by omega) (fun h T nT => ?_) (fun h => ?_)
      · rw [if_pos h] at fin
        refine k _ _ (e5.tr (R.Ex.new nT)) (NewV.mk e5 nT) ?_
        rw [← fin]
        exact ⟨T, rfl, upd_same⟩
      · rw [if_neg h] at fin
        exact ⟨_, _, _, _, _, _, _, _, rfl, e5.mut nq, upd_same, by simp [ha], fin⟩
  · rintro σ H4 ⟨t, ar, f, u8, u9, u10, u11, acc, rfl, e4, hq, ha, eq⟩
    rw [hp.len, List.drop_length] at eq
    wtm_at "vc"
    refine k _ _ e4 (NewV.mk (R.Ex.refl H) nq) ?_
    rw [← eq]
    exact ⟨q, rfl, hq⟩

/-! what padding tells, as data; a turn's start -/
def padD : PadR → PyData
  | .pair a b => .tuple [.int a, .int b]
  | .row l => .list (l.map PyData.int)
theorem ints_dp {K : PySem.W.Frag} {H : Hp} : ∀ l : List Int, DpAll K H (l.map V.int) (l.map PyData.int)
  | [] => .nil
  | i :: l => .cons (.int i) (ints_dp l)
theorem ints_depth : ∀ l : List Int, PyData.depthAll (l.map PyData.int) = 0
  | [] => rfl
  | i :: l => by show max 0 (PyData.depthAll (l.map PyData.int)) = 0; rw [ints_depth l]; rfl
theorem PadAt.dp {K : PySem.W.Frag} {H : Hp} {v : V} : ∀ {r : PadR}, PadAt K H v r → Dp K H v (padD r)
  | .pair a b, ⟨t, e, h⟩ => by subst e; exact .tup (SqT.of h) (.cons (.int a) (.cons (.int b) .nil))
  | .row l, ⟨t, e, h⟩ => by subst e; exact .lst (SqL.of h) (ints_dp l)
theorem PadAt.ex {K : PySem.W.Frag} {H H' : Hp} {v : V} (e : R.Ex H H') : ∀ {r : PadR}, PadAt K H v r → PadAt K H' v r
  | .pair _ _, ⟨t, q, h⟩ => ⟨t, q, e _ _ h⟩
  | .row _, ⟨t, q, h⟩ => ⟨t, q, e _ _ h⟩
theorem PadAt.exb {K : PySem.W.Frag} {H H' : Hp} {v : V} {p : Addr} (e : R.ExB p H H') (n : v ≠ .ref p) : ∀ {r : PadR}, PadAt K H v r → PadAt K H' v r
  | .pair _ _, ⟨t, q, h⟩ => ⟨t, q, e _ _ (fun z => n (by rw [q, z])) h⟩
  | .row _, ⟨t, q, h⟩ => ⟨t, q, e _ _ (fun z => n (by rw [q, z])) h⟩
theorem padD_depth : ∀ r : PadR, PyData.depth (padD r) ≤ 1
  | .pair a b => by show max 0 (max 0 0) + 1 ≤ 1; decide
  | .row l => by show PyData.depthAll (l.map PyData.int) + 1 ≤ 1; rw [ints_depth]; decide
structure TI (K : PySem.W.Frag) (H H' : Hp) (p : Addr) : Prop where
  e : R.Ex H H'
  n : H p = none
  pl : PoolAt H' p
theorem TI.take {K : PySem.W.Frag} {H H' H2 : Hp} {p : Addr} (s : TI K H H' p) (e : R.ExB p H' H2) (h : PoolAt H2 p) : TI K H H2 p := ⟨s.e.trB s.n e, s.n, h⟩
theorem TI.new {K : PySem.W.Frag} {H H' : Hp} {p q : Addr} {o : HO} (s : TI K H H' p) (n : H' q = none) : TI K H (upd H' q o) p := ⟨s.e.tr (R.Ex.new n), s.n, s.pl.old n⟩
theorem TI.ex {K : PySem.W.Frag} {H H' H2 : Hp} {p : Addr} (s : TI K H H' p) (e : R.Ex H' H2) : TI K H H2 p := ⟨s.e.tr e, s.n, let ⟨a, b, h, k⟩ := s.pl; ⟨a, b, e _ _ h, k⟩⟩
/-- rows of pairs at q, of a list -/
structure RowsAt (K : PySem.W.Frag) (H : Hp) (q : Addr) (xs : List V) (ps : List (Int × Int)) : Prop where
  l : H q = some (.lst xs)
  pr : Prs K H xs ps
  ok : POk ps
  len : xs.length ≤ 30
theorem RowsAt.take {K : PySem.W.Frag} {H H' : Hp} {p q : Addr} {xs : List V} {ps : List (Int × Int)} (h : RowsAt K H q xs ps) (n : q ≠ p) (hp : PoolAt H p) (e : R.ExB p H H') : RowsAt K H' q xs ps :=
  let ⟨_, hl⟩ := hp.lst
  ⟨e _ _ n h.l, h.pr.exb e hl, h.ok, h.len⟩
theorem RowsAt.ex {K : PySem.W.Frag} {H H' : Hp} {q : Addr} {xs : List V} {ps : List (Int × Int)} (h : RowsAt K H q xs ps) (e : R.Ex H H') : RowsAt K H' q xs ps := ⟨e _ _ h.l, h.pr.ex e, h.ok, h.len⟩
theorem ints_at {us : List Int} {i : Nat} {u : Int} (h : us[i]? = some u) : atI (us.map V.int) (i : Int) = some (.int u) := atI_nat (by rw [List.getElem?_map, h]; rfl)

/-! k80 -/
def SS (ps : List (Int × Int)) : Int := (ps.map Prod.fst).sum
def SL (ps : List (Int × Int)) : Int := (ps.map Prod.snd).sum
theorem SS_snoc (ps : List (Int × Int)) (p : Int × Int) : SS (ps ++ [p]) = SS ps + p.1 := by unfold SS; simp
theorem SL_snoc (ps : List (Int × Int)) (p : Int × Int) : SL (ps ++ [p]) = SL ps + p.2 := by unfold SL; simp
theorem SS_app (ps qs : List (Int × Int)) : SS (ps ++ qs) = SS ps + SS qs := by unfold SS; simp
theorem SL_cons (p : Int × Int) (ps : List (Int × Int)) : SL (p :: ps) = p.2 + SL ps := by unfold SL; simp
theorem SS_cons (p : Int × Int) (ps : List (Int × Int)) : SS (p :: ps) = p.1 + SS ps := by unfold SS; simp
theorem SS_drop (ps : List (Int × Int)) (m : Nat) : SS (ps.drop m) = SS ps - SS (ps.take m) := by
  have : SS (ps.take m ++ ps.drop m) = SS ps := by rw [List.take_append_drop]
  rw [SS_app] at this; omega
/-- rows with small sizes -/
def PSm (ps : List (Int × Int)) : Prop := ∀ p ∈ ps, p.1 ≤ 1000000 ∧ p.2 ≤ 8
def sp_law_rows (K : PySem.W.Frag) : Sp := fun vs H Q _ => ∃ (p : Addr) (pace : Int), vs = [.ref p, .int pace] ∧ PoolAt H p ∧ 0 ≤ pace ∧ pace ≤ 1000 ∧
  ∀ H' q xs ps, R.ExB p H H' → PoolAt H' p → H q = none → RowsAt K H' q xs ps → PSm ps → Q (.ref q) H'
theorem len_law_rows {K : PySem.W.Frag} (vs : List V) (H : Hp) (Q : VK) (E : XK) (h : sp_law_rows K vs H Q E) : vs.length = (["pool", "rate"] : List Str).length := by
  obtain ⟨p, pace, rfl, _⟩ := h; rfl
def t_law_rows (K : PySem.W.Frag) (E : XK) : TS :=
  (tSeq (tAsg (tLst tNil) (gName 2))
    (tSeq (tFor (iRng1 (tCons (tOp (rIx K) (tLst (tCons (tC (.int 0)) (tCons (tC (.int 1)) (tCons (tC (.int 3)) (tCons (tC (.int 8)) (tCons (tC (.int 30)) tNil)))))) (tCall (sp_law_take K) [] E (tCons (tVar 0) (tCons (tC (.int 5)) tNil)))) tNil)) (gName 3)
    (tSeq (tAsg (tOp (U.rAdd K) (tC (.int 1)) (tCall (sp_law_take K) [] E (tCons (tVar 0) (tCons (tC (.int 8)) tNil)))) (gName 4))
    (tSeq (tAsg (tCB U.rMax2 (tCons (tC (.int 0)) (tCons (tOp U.rSub (tOp (U.rAdd K) (tOp U.rMul (tVar 1) (tVar 4)) (tCall (sp_law_take K) [] E (tCons (tVar 0) (tCons (tC (.int 81)) tNil)))) (tC (.int 40))) tNil))) (gName 5))
    (tDrop (tBM K "list" rAppend (tVar 2) (tCons (tTup (tCons (tOp (rIx K) (tLst (tCons (tVar 5) (tCons (tVar 5) (tCons (tCall (sp_law_take K) [] E (tCons (tVar 0) (tCons (tOp (U.rAdd K) (tOp U.rPow (tC (.int 10)) (tC (.int 6))) (tC (.int 1))) tNil))) (tCons (tC (.int 0)) tNil))))) (tCall (sp_law_take K) [] E (tCons (tVar 0) (tCons (tC (.int 4)) tNil)))) (tCons (tVar 4) tNil))) tNil))))))
    (tRet (tVar 2))))
theorem psm_snoc {ps : List (Int × Int)} {a b : Int} (h : PSm ps) (ha : a ≤ 1000000) (hb : b ≤ 8) : PSm (ps ++ [(a, b)]) := by
  intro r hr
  rcases List.mem_append.mp hr with h1 | h1
  · exact h r h1
  · rw [List.mem_singleton.mp h1]; exact ⟨ha, hb⟩
theorem rd_law_rows {K : PySem.W.Frag} (vs : List V) (H : Hp) (Q : VK) (E : XK) (h : sp_law_rows K vs H Q E) : t_law_rows K E { nx := fun _ H' => Q .non H', rt := Q } (start ["pool", "rate", "found", "turn", "many", "near"] vs) H := by
  obtain ⟨p, pace, rfl, hp, r0, r1, k⟩ := h
  unfold t_law_rows
  wtm_at "vc"
  refine ⟨by decide, fun q nq => ?_⟩
  have s1 : SzI K p q H (upd H q (.lst [])) [] [] := ⟨R.ExB.new nq, hp.old nq, nq, upd_same, ⟨rfl, fun i p h => by simp at h⟩, fun _ h => by simp at h⟩
  wtm_at "vc"
  refine ⟨by decide, fun m nm => ?_⟩
  wtm_at "vc"
  refine menuTake [0, 1, 3, 8, 30] (fun n => 0 ≤ n ∧ n ≤ 30) s1.pl nm rfl (by decide) (by decide) (by decide) fun n H2 hn p2 e2 => ?_
  have s3 := s1.take hp e2 p2
  refine R.rngP (by omega) (by omega) (fun i σ H' => ∃ u3 u4 u5 xs ps, σ = [some (.ref p), some (.int pace), some (.ref q), u3, u4, u5] ∧ SzI K p q H H' xs ps ∧ xs.length = i ∧ PSm ps) ⟨none, none, none, [], [], rfl, s3, rfl, fun _ h => by simp at h⟩ ?_ ?_
  · rintro i σ H3 hi ⟨u3, u4, u5, xs, ps, rfl, s, hl, sm⟩
    wtm_at "vc"
    refine ⟨p, _, rfl, s.pl, by decide, by decide, fun a H4 a0 a1 p4 e4 => ?_⟩
    have t4 := s.take hp e4 p4
    wtm_at "vc"
    refine ⟨p, _, rfl, t4.pl, by decide, by decide, fun b H5 b0 b1 p5 e5 => ?_⟩
    have t5 := t4.take hp e5 p5
    wtm_at "vc"
    have hmul : 0 ≤ pace * (1 + a) := Int.mul_nonneg r0 (by omega)
    have hmul2 : pace * (1 + a) ≤ 1000 * 8 := Int.mul_le_mul r1 (by omega) (by omega) (by decide)
    generalize pace * (1 + a) = pm at *
    generalize hsz : (if pm + b - 40 > 0 then pm + b - 40 else 0) = sz
    have sz0 : 0 ≤ sz := by rw [← hsz]; split <;> omega
    have sz1 : sz ≤ 9000 := by rw [← hsz]; split <;> omega
    have hq5 := t5.q
    wtm_at "vc"
    refine ⟨p, _, rfl, t5.pl, by decide, by decide, fun d H6 d0 d1 p6 e6 => ?_⟩
    have t6 := t5.take hp e6 p6
    wtm_at "vc"
    refine ⟨by show 4 ≤ sizeLine; decide, fun m3 nm3 => ?_⟩
    wtm_at "vc"
    refine menuTake [sz, sz, d, 0] (fun n => 0 ≤ n ∧ n ≤ 1000000) p6 nm3 rfl (by decide) (by decide) (by intro n hn; simp at hn; omega) fun n H7 hn7 p7 e7 => ?_
    have t7 := t6.take hp e7 p7
    wtm_at "vc"
    refine ⟨by show 2 ≤ sizeLine; decide, fun t nt => ?_⟩
    have hl2 : xs.length < sizeLine := by rw [sizeLine_eq]; omega
    have hq := t7.q
    wtm_at "vc"
    exact ⟨_, _, _, _, _, rfl, (t7.new nt).app hp (SqT.of upd_same) hn7.1 (by omega) (by omega) (by omega), by simp [hl], psm_snoc sm hn7.2 (by omega)⟩
  · rintro σ H3 ⟨u3, u4, u5, xs, ps, rfl, s, hl, sm⟩
    wtm_at "vc"
    exact k _ _ _ _ s.e s.pl s.n ⟨s.q, s.pr, s.ok, by omega⟩ sm
def lateR (r : Int) : List (Int × Int) → Nat → Int → Int → Option Nat
  | [], _, _, _ => none
  | p :: ps, i, t, a => if t + p.1 > a then some i else lateR r ps (i + 1) (t + p.1) (a + r * p.2)
theorem late_in (r : Int) : ∀ (ps : List (Int × Int)) (i : Nat) (t a : Int), inT r ps t a = (lateR r ps i t a).isNone
  | [], _, _, _ => rfl
  | p :: ps, i, t, a => by
    show (if t + p.1 > a then false else inT r ps (t + p.1) (a + r * p.2)) = (if t + p.1 > a then some i else lateR r ps (i + 1) (t + p.1) (a + r * p.2)).isNone
    by_cases h : t + p.1 > a
    · rw [if_pos h, if_pos h]; rfl
    · rw [if_neg h, if_neg h]; exact late_in r ps (i + 1) _ _
theorem pos_SL {ps : List (Int × Int)} (h : POk ps) : 0 ≤ SL ps := by
  induction ps with
  | nil => decide
  | cons p ps ih => rw [SL_cons]; have := h p (by simp); have := ih (fun q hq => h q (by simp [hq])); omega
theorem SL_le {ps : List (Int × Int)} (h : PSm ps) : SL ps ≤ 8 * (ps.length : Int) := by
  induction ps with
  | nil => decide
  | cons p ps ih => rw [SL_cons]; have := h p (by simp); have := ih (fun q hq => h q (by simp [hq])); simp; omega
theorem SS_le {ps : List (Int × Int)} (h : PSm ps) : SS ps ≤ 1000000 * (ps.length : Int) := by
  induction ps with
  | nil => decide
  | cons p ps ih => rw [SS_cons]; have := h p (by simp); have := ih (fun q hq => h q (by simp [hq])); simp; omega
theorem SS_pos {ps : List (Int × Int)} (h : POk ps) : 0 ≤ SS ps := by
  induction ps with
  | nil => decide
  | cons p ps ih => rw [SS_cons]; have := h p (by simp); have := ih (fun q hq => h q (by simp [hq])); omega
theorem ld_bound {r : Int} (r0 : 0 ≤ r) : ∀ (ps : List (Int × Int)) (f t d B : Int), POk ps → f ≤ B → t - d + SS ps ≤ B → ld r ps f t d ≤ B
  | [], f, t, d, B, _, h, _ => h
  | p :: ps, f, t, d, B, hk, h, h2 => by
    rw [SS_cons] at h2
    have hp := hk p (by simp)
    have hk2 : POk ps := fun q hq => hk q (by simp [hq])
    have := SS_pos hk2
    have hm : 0 ≤ r * p.2 := Int.mul_nonneg r0 (by omega)
    show ld r ps (if t + p.1 - d > f then t + p.1 - d else f) (t + p.1) (d + r * p.2) ≤ B
    refine ld_bound r0 ps _ _ _ B hk2 ?_ (by omega)
    split <;> omega
theorem pad_zero {r : Int} (r0 : 0 ≤ r) (n : Nat) : ∀ (ps : List (Int × Int)) (i : Nat) (t a : Int) (acc : List Int), POk ps → 0 ≤ t → a + r * SL ps ≤ 1000000000 →
    padR r 1000000000 n ps i t a 0 acc = match lateR r ps i t a with | some j => .pair 0 j | none => .row (acc ++ List.replicate ps.length 0)
  | [], i, t, a, acc, _, _, _ => by simp [padR, lateR]
  | p :: ps, i, t, a, acc, hk, ht, ha => by
    have hp := hk p (by simp)
    have hk2 : POk ps := fun q hq => hk q (by simp [hq])
    rw [SL_cons, Int.mul_add] at ha
    have hm : 0 ≤ r * SL ps := Int.mul_nonneg r0 (pos_SL hk2)
    have z : (if (i : Int) + 1 < (n : Int) then (if a + r * p.2 - (t + p.1) - 1000000000 > 0 then a + r * p.2 - (t + p.1) - 1000000000 else 0) else 0) = 0 := by
      split
      · rw [if_neg (by omega)]
      · rfl
    unfold padR lateR
    dsimp only
    rw [z, Int.add_zero, if_neg (show ¬ (0 : Int) > 0 by omega)]
    by_cases h : t + p.1 > a
    · rw [if_pos h, if_pos h]
    · rw [if_neg h, if_neg h, pad_zero r0 n ps (i + 1) (t + p.1) (a + r * p.2) (acc ++ [0]) hk2 (by omega) (by omega)]
      cases lateR r ps (i + 1) (t + p.1) (a + r * p.2) with
      | some j => rfl
      | none => simp [List.replicate_succ]
/-- what a pair claims -/
def thereR (r dl st : Int) (ps : List (Int × Int)) (f l : Nat) : Int := if (f : Int) > 0 then st + r * (SL (ps.take l) - SL (ps.take f)) else dl + r * SL (ps.take l)
def exR (r dl st : Int) (ps : List (Int × Int)) (f l : Nat) (len : Int) : Bool :=
  decide ((if (l : Int) + 1 < (ps.length : Int) then (if thereR r dl st ps f l + r * len - st > SS ((ps.take (l + 1)).drop f) then thereR r dl st ps f l + r * len - st else SS ((ps.take (l + 1)).drop f)) else SS ((ps.take (l + 1)).drop f)) > thereR r dl st ps f l)
theorem pad_ex (r dl st : Int) (full : List (Int × Int)) : ∀ (ps : List (Int × Int)) (i f : Nat) (t a x y : Int) (acc : List Int), full.drop i = ps → f ≤ i → a = dl + r * SL (full.take i) → t = SS (full.take i) - SS (full.take f) + a - thereR r dl st full f i →
    padR r st full.length ps i t a f acc = .pair x y → ∃ (g l : Nat) (p : Int × Int), x = g ∧ y = l ∧ g ≤ l ∧ full[l]? = some p ∧ exR r dl st full g l p.2 = true
  | [], i, f, t, a, x, y, acc, _, _, _, _, e => by cases e
  | p :: ps, i, f, t, a, x, y, acc, hd, hf, ha, ht, e => by
    have hi : i < full.length := by
      apply Decidable.byContradiction
      intro h
      rw [List.drop_eq_nil_of_le (by omega)] at hd
      cases hd
    have hp : full[i]? = some p := by
      have := List.getElem?_drop (xs := full) (i := i) (j := 0)
      rw [hd] at this
      simpa using this.symm
    have hd2 : full.drop (i + 1) = ps := by
      have := R.drop_cons hp
      rw [hd] at this
      exact (List.cons.inj this).2.symm
    have htk : full.take (i + 1) = full.take i ++ [p] := by rw [List.take_add_one, hp]; rfl
    have s1 : SS (full.take (i + 1)) = SS (full.take i) + p.1 := by rw [htk, SS_snoc]
    have l1 : SL (full.take (i + 1)) = SL (full.take i) + p.2 := by rw [htk, SL_snoc]
    have need : ∀ f : Nat, f ≤ i → SS ((full.take (i + 1)).drop f) = SS (full.take i) + p.1 - SS (full.take f) := fun f hf => by
      rw [SS_drop, List.take_take, Nat.min_eq_left (by omega), s1]
    unfold padR at e
    dsimp only at e
    generalize hadd : (if (i : Int) + 1 < (full.length : Int) then (if a + r * p.2 - (t + p.1) - st > 0 then a + r * p.2 - (t + p.1) - st else 0) else 0) = add at e
    by_cases h : t + p.1 + add > a
    · rw [if_pos h] at e
      cases e
      refine ⟨f, i, p, rfl, rfl, hf, hp, ?_⟩
      unfold exR
      rw [need f hf]
      generalize thereR r dl st full f i = T at *
      generalize r * p.2 = rp at *
      refine decide_eq_true ?_
      by_cases hn : (i : Int) + 1 < (full.length : Int)
      · rw [if_pos hn] at hadd ⊢
        split at hadd <;> split <;> omega
      · rw [if_neg hn] at hadd ⊢
        omega
    · rw [if_neg h] at e
      have ha2 : a + r * p.2 = dl + r * SL (full.take (i + 1)) := by rw [l1, Int.mul_add]; omega
      by_cases h0 : add > 0
      · rw [if_pos h0] at e
        refine pad_ex r dl st full ps (i + 1) (i + 1) _ _ x y _ hd2 (Nat.le_refl _) ha2 ?_ (by exact_mod_cast e)
        unfold thereR
        rw [if_pos (by omega), Int.sub_self, Int.sub_self, Int.mul_zero]
        split at hadd
        · split at hadd <;> omega
        · omega
      · rw [if_neg h0] at e
        have a0 : 0 ≤ add := by rw [← hadd]; split <;> (try split) <;> omega
        have z : add = 0 := by omega
        refine pad_ex r dl st full ps (i + 1) f _ _ x y _ hd2 (by omega) ha2 ?_ e
        rw [s1, z]
        unfold thereR at ht ⊢
        rw [l1]
        by_cases hf0 : (f : Int) > 0
        · rw [if_pos hf0] at ht ⊢
          have q : r * (SL (full.take i) + p.2 - SL (full.take f)) = r * (SL (full.take i) - SL (full.take f)) + r * p.2 := by rw [← Int.mul_add]; congr 1; omega
          rw [q]; omega
        · rw [if_neg hf0] at ht ⊢
          rw [Int.mul_add]; omega
def lateV : Option Nat → V
  | none => .non
  | some i => .int (i : Nat)
def sp_law_late (K : PySem.W.Frag) : Sp := fun vs H Q _ => ∃ a r dl xs ps, vs = [.ref a, .int r, .int dl] ∧ 0 ≤ r ∧ r ≤ 1000000000 ∧ SqL K H a xs ∧ Prs K H xs ps ∧
  ∀ H', R.Ex H H' → Q (lateV (lateR r ps 0 0 dl)) H'
theorem len_law_late {K : PySem.W.Frag} (vs : List V) (H : Hp) (Q : VK) (E : XK) (h : sp_law_late K vs H Q E) : vs.length = (["sizes", "rate", "delay"] : List Str).length := by
  obtain ⟨_, _, _, _, _, rfl, _⟩ := h; rfl
def t_law_late (K : PySem.W.Frag) (E : XK) : TS :=
  (tSeq (tPar 3 4 (tCons (tC (.int 0)) (tCons (tVar 2) tNil)))
    (tSeq (tFor (U.iEn K (tCons (tVar 0) tNil)) (gTup K 2 (gCons (gName 5) (gCons (gName 6) gNil)))
    (tSeq (tAsg (tOp (U.rAdd K) (tVar 3) (tOp (rIx K) (tVar 6) (tC (.int 0)))) (gName 3))
    (tSeq (tIfS (tTest (tOp U.rGt (tVar 3) (tVar 4))) (tRet (tVar 5))
    tNext)
    (tAsg (tOp (U.rAdd K) (tVar 4) (tOp U.rMul (tVar 1) (tOp (rIx K) (tVar 6) (tC (.int 1))))) (gName 4)))))
    (tRet (tC .non))))
theorem rd_law_late {K : PySem.W.Frag} (vs : List V) (H : Hp) (Q : VK) (E : XK) (h : sp_law_late K vs H Q E) : t_law_late K E { nx := fun _ H' => Q .non H', rt := Q } (start ["sizes", "rate", "delay", "total", "arrived", "at", "item"] vs) H := by
  obtain ⟨a, r, dl, xs, ps, rfl, r0, r1, hs, hp, k⟩ := h
  unfold t_law_late
  wtm_at "vc"
  refine R.forEn (l := true) rfl hs (fun i σ H' => ∃ t ar u5 u6, σ = [some (.ref a), some (.int r), some (.int dl), some (.int t), some (.int ar), u5, u6] ∧ R.Ex H H' ∧ lateR r (ps.drop i) i t ar = lateR r ps 0 0 dl)
    ⟨0, dl, none, none, rfl, R.Ex.refl H, rfl⟩ (fun i σ H2 _ ⟨_, _, _, _, _, e, _⟩ => e.l hs) ?_ ?_
  · rintro i x T σ H4 hx ⟨t, ar, u5, u6, rfl, e4, eq⟩ nT
    obtain ⟨p, tt, hp2, rfl, ht⟩ := (hp.ex e4).get hx
    rw [R.drop_cons hp2] at eq
    have eq2 : (if t + p.1 > ar then some i else lateR r (ps.drop (i + 1)) (i + 1) (t + p.1) (ar + r * p.2)) = lateR r ps 0 0 dl := eq
    have e5 := e4.tr (R.Ex.new (o := .tup [.int (i : Nat), .ref tt]) nT)
    have ht2 := (R.Ex.new (o := .tup [.int (i : Nat), .ref tt]) nT).t ht
    have hT2 : (upd H4 T (.tup [.int (i : Nat), .ref tt])) T = some (.tup [.int (i : Nat), .ref tt]) := upd_same
    generalize upd H4 T (.tup [.int (i : Nat), .ref tt]) = H5 at *
    wtm_at "vc"
    (with_reducible refine R.ifd ?_ ?_) <;> intro h
    · rw [if_pos h] at eq2
      wtm_at "vc"
      rw [← eq2] at k
      exact k _ e5
    · rw [if_neg h] at eq2
      wtm_at "vc"
      exact ⟨_, _, _, _, rfl, e5, eq2⟩
  · rintro σ H4 ⟨t, ar, u5, u6, rfl, e4, eq⟩
    rw [hp.len, List.drop_length] at eq
    have eq2 : none = lateR r ps 0 0 dl := eq
    wtm_at "vc"
    rw [← eq2] at k
    exact k _ e4
def sp_law_exceeds (K : PySem.W.Frag) : Sp := fun vs H Q _ => ∃ (a : Addr) (r dl st : Int) (t : Addr) (xs : List V) (ps : List (Int × Int)) (f l : Nat) (p : Int × Int), vs = [.ref a, .int r, .int dl, .int st, .ref t] ∧ 0 ≤ r ∧ r ≤ 1000000000 ∧ SqL K H a xs ∧ Prs K H xs ps ∧ SqT K H t [.int f, .int l] ∧ f ≤ l ∧ ps[l]? = some p ∧ ps.length ≤ 1000 ∧
  ∀ H', R.Ex H H' → Q (.bl (exR r dl st ps f l p.2)) H'
theorem len_law_exceeds {K : PySem.W.Frag} (vs : List V) (H : Hp) (Q : VK) (E : XK) (h : sp_law_exceeds K vs H Q E) : vs.length = (["sizes", "rate", "delay", "store", "pair"] : List Str).length := by
  obtain ⟨_, _, _, _, _, _, _, _, _, _, rfl, _⟩ := h; rfl
def t_law_exceeds (K : PySem.W.Frag) (E : XK) : TS :=
  (tSeq (tAsg (tVar 4) (gTup K 2 (gCons (gName 8) (gCons (gName 9) gNil))))
    (tSeq (tAsg (tLc (iRng1 (tCons (tCB (U.rLen K) (tCons (tVar 0) tNil)) tNil)) (gName 10) tYes (tCB (rSum K) (tCons (tLc (U.iSeq K (tSl (U.rSlU K) (tVar 0) tNoPart (tPart (tVar 10)))) (gName 11) tYes (tOp (rIx K) (tVar 11) (tC (.int 1))) [11]) tNil)) [10]) (gName 5))
    (tSeq (tAsg (tCB (rSum K) (tCons (tLc (U.iSeq K (tSl (U.rSlU K) (tVar 0) (tPart (tVar 8)) (tPart (tOp (U.rAdd K) (tVar 9) (tC (.int 1)))))) (gName 11) tYes (tOp (rIx K) (tVar 11) (tC (.int 0))) [11]) tNil)) (gName 6))
    (tSeq (tAsg (tOp (U.rAdd K) (tVar 2) (tOp U.rMul (tVar 1) (tOp (rIx K) (tVar 5) (tVar 9)))) (gName 7))
    (tSeq (tIfS (tTest (tOp U.rGt (tVar 8) (tC (.int 0)))) (tAsg (tOp (U.rAdd K) (tVar 3) (tOp U.rMul (tVar 1) (tOp U.rSub (tOp (rIx K) (tVar 5) (tVar 9)) (tOp (rIx K) (tVar 5) (tVar 8))))) (gName 7))
    tNext)
    (tSeq (tIfS (tTest (tOp U.rLt (tOp (U.rAdd K) (tVar 9) (tC (.int 1))) (tCB (U.rLen K) (tCons (tVar 0) tNil)))) (tAsg (tCB U.rMax2 (tCons (tVar 6) (tCons (tOp U.rSub (tOp (U.rAdd K) (tVar 7) (tOp U.rMul (tVar 1) (tOp (rIx K) (tOp (rIx K) (tVar 0) (tVar 9)) (tC (.int 1))))) (tVar 3)) tNil))) (gName 6))
    tNext)
    (tRet (tOp U.rGt (tVar 6) (tVar 7)))))))))
theorem Prs.take {K : PySem.W.Frag} {H : Hp} {xs : List V} {ps : List (Int × Int)} (h : Prs K H xs ps) (m : Nat) : Prs K H (xs.take m) (ps.take m) := by
  refine ⟨by rw [List.length_take, List.length_take, h.len], fun i p hp => ?_⟩
  rw [List.getElem?_take] at hp
  by_cases z : i < m
  · rw [if_pos z] at hp
    obtain ⟨t, h1, h2⟩ := h.at_ i p hp
    exact ⟨t, by rw [List.getElem?_take, if_pos z]; exact h1, h2⟩
  · rw [if_neg z] at hp; cases hp
theorem Prs.drop {K : PySem.W.Frag} {H : Hp} {xs : List V} {ps : List (Int × Int)} (h : Prs K H xs ps) (m : Nat) : Prs K H (xs.drop m) (ps.drop m) := by
  refine ⟨by rw [List.length_drop, List.length_drop, h.len], fun i p hp => ?_⟩
  rw [List.getElem?_drop] at hp
  obtain ⟨t, h1, h2⟩ := h.at_ _ p hp
  exact ⟨t, by rw [List.getElem?_drop]; exact h1, h2⟩
/-- [item[j] for item in rows] -/
theorem lc_items {K : PySem.W.Frag} {j : Nat} {f : Int × Int → Int} {a : Addr} {xs : List V} {ps : List (Int × Int)} {σ : L2.St} {H : Hp} {Q : VK} (hj : ∀ p : Int × Int, atI [V.int p.1, V.int p.2] (j : Int) = some (.int (f p))) (hσ : σ.length = 12) (hs : SqL K H a xs) (hp : Prs K H xs ps) (hl : ps.length ≤ 1000)
    (k : ∀ D H', R.Ex H H' → SqL K H' D ((ps.map f).map V.int) → Q (.ref D) H') : R.LcLP K (gName 11) tYes (tOp (rIx K) (tVar 11) (tC (.int j))) [11] Q σ (.ref a) H := by
  refine R.lcLP hs (fun D i H' => R.Ex H H' ∧ H D = none ∧ H' D = some (.lst (((ps.take i).map f).map V.int))) (fun D n => ⟨R.Ex.new n, n, upd_same⟩) (fun D i H' e => e.1.l hs) ?_ ?_
  · rintro D i x H' hx ⟨e, nD, hD⟩
    obtain ⟨p, t, hp2, rfl, ht⟩ := (hp.ex e).get hx
    have hset : (wipe σ [11]).set 11 (some (.ref t)) = σ.set 11 (some (.ref t)) := by show (σ.set 11 none).set 11 _ = _; rw [List.set_set]
    have hget : (σ.set 11 (some (V.ref t)))[11]? = some (some (.ref t)) := by rw [List.getElem?_set]; simp [hσ]
    refine R.gname ?_
    rw [hset]
    refine ⟨by show (σ.set 11 _).set 11 none = σ.set 11 none; rw [List.set_set], ?_⟩
    refine R.yes (Q := fun b H3 => _) ?_
    refine iteT ?_
    refine R.op (R.var hget (R.c ?_))
    refine R.ixuT ht (hj p) ?_
    refine ⟨_, hD, by rw [sizeLine_eq, List.length_map, List.length_map, List.length_take]; omega, e.mut nD, nD, ?_⟩
    rw [List.take_add_one, hp2]
    simp [upd_same]
  · rintro D H' ⟨e, nD, hD⟩
    rw [hp.len, List.take_length] at hD
    exact k D H' e (SqL.of hD)

theorem starts_snoc (ps : List (Int × Int)) (i : Nat) : ((List.range i).map fun j => SL (ps.take j)).map V.int ++ [V.int (SL (ps.take i))] = ((List.range (i + 1)).map fun j => SL (ps.take j)).map V.int := by
  rw [List.range_succ]; simp
theorem ex_tail {K : PySem.W.Frag} {D : Ends} {H : Hp} {a : Addr} {r st nd thr : Int} {l : Nat} {xs : List V} {ps : List (Int × Int)} {p : Int × Int} {u2 u4 u5 u8 u10 u11 : Option V} (r0 : 0 ≤ r) (r1 : r ≤ 1000000000) (hs : SqL K H a xs) (hp : Prs K H xs ps) (hpl : ps[l]? = some p)
    (k : D.rt (.bl (decide ((if (l : Int) + 1 < (ps.length : Int) then (if thr + r * p.2 - st > nd then thr + r * p.2 - st else nd) else nd) > thr))) H) :
    (tSeq (tIfS (tTest (tOp U.rLt (tOp (U.rAdd K) (tVar 9) (tC (.int 1))) (tCB (U.rLen K) (tCons (tVar 0) tNil)))) (tAsg (tCB U.rMax2 (tCons (tVar 6) (tCons (tOp U.rSub (tOp (U.rAdd K) (tVar 7) (tOp U.rMul (tVar 1) (tOp (rIx K) (tOp (rIx K) (tVar 0) (tVar 9)) (tC (.int 1))))) (tVar 3)) tNil))) (gName 6))
    tNext)
    (tRet (tOp U.rGt (tVar 6) (tVar 7)))) D [some (.ref a), some (.int r), u2, some (.int st), u4, u5, some (.int nd), some (.int thr), u8, some (.int (l : Nat)), u10, u11] H := by
  obtain ⟨tt, hx, ht⟩ := hp.at_ l p hpl
  wtm_at "vc"
  rw [hp.len]
  (with_reducible refine R.ifd ?_ ?_) <;> intro h
  · rw [if_pos h] at k
    wtm_at "vc"
    refine R.ixuL hs (atI_nat hx) ?_
    wtm_at "vc"
    exact k
  · rw [if_neg h] at k
    wtm_at "vc"
    exact k
theorem rd_law_exceeds {K : PySem.W.Frag} (vs : List V) (H : Hp) (Q : VK) (E : XK) (h : sp_law_exceeds K vs H Q E) : t_law_exceeds K E { nx := fun _ H' => Q .non H', rt := Q } (start ["sizes", "rate", "delay", "store", "pair", "starts", "need", "there", "first", "last", "at", "item"] vs) H := by
  obtain ⟨a, r, dl, st, t, xs, ps, f, l, p, rfl, r0, r1, hs, hp, ht, hfl, hpl, hn, k⟩ := h
  have hl := (List.getElem?_eq_some_iff.mp hpl).1
  have hxl := hp.len
  unfold t_law_exceeds
  wtm_at "vc"
  refine R.lcRP (by omega) (by omega) (fun D i H' => R.Ex H H' ∧ H D = none ∧ H' D = some (.lst (((List.range i).map fun j => SL (ps.take j)).map V.int))) (fun D n => ⟨R.Ex.new n, n, upd_same⟩) ?_ ?_
  · rintro D i H' hi ⟨e, nD, hD⟩
    wtm_at "vc"
    refine R.lcLe ?_
    wtm_at "vc"
    refine R.slL (e.l hs) fun z nz => ?_
    rw [R.cut_to (by omega)]
    have e2 := e.tr (R.Ex.new (o := .lst (xs.take i)) nz)
    refine lc_items (j := 1) (f := Prod.snd) (fun p => rfl) rfl (SqL.of upd_same) ((hp.take i).ex e2) (by rw [List.length_take]; omega) fun D2 H2 e3 h2 => ?_
    wtm_at "vc1"
    refine R.sum h2 ?_
    have e4 := (R.Ex.new (o := .lst (xs.take i)) nz).tr e3
    refine ⟨_, e4 _ _ hD, by rw [sizeLine_eq, List.length_map, List.length_map, List.length_range]; omega, (e.tr e4).mut nD, nD, ?_⟩
    have q : ((ps.take i).map Prod.snd).sum = SL (ps.take i) := rfl
    rw [q, starts_snoc]
    exact upd_same
  rintro D H1 ⟨e1, nD, hD⟩
  have hz : ((xs.length : Nat) : Int).toNat = ps.length := by omega
  rw [hz] at hD
  wtm_at "vc"
  refine R.lcLe ?_
  wtm_at "vc"
  refine R.slL (e1.l hs) fun z nz => ?_
  have hc : ((l : Int) + 1) = ((l + 1 : Nat) : Int) := by omega
  rw [hc, R.cut_mid (by omega) (by omega)]
  have e2 := e1.tr (R.Ex.new (o := .lst ((xs.take (l + 1)).drop f)) nz)
  refine lc_items (j := 0) (f := Prod.fst) (fun p => rfl) rfl (SqL.of upd_same) (((hp.take (l + 1)).drop f).ex e2) (by rw [List.length_drop, List.length_take]; omega) fun D2 H2 e3 h2 => ?_
  wtm_at "vc1"
  refine R.sum h2 ?_
  have q : (((ps.take (l + 1)).drop f).map Prod.fst).sum = SS ((ps.take (l + 1)).drop f) := rfl
  rw [q]
  have e4 := e2.tr e3
  have hD2 : SqL K H2 D (((List.range ps.length).map fun j => SL (ps.take j)).map V.int) := SqL.of (((R.Ex.new (o := .lst ((xs.take (l + 1)).drop f)) nz).tr e3) _ _ hD)
  have at_ : ∀ m, m < ps.length → atI (((List.range ps.length).map fun j => SL (ps.take j)).map V.int) (m : Int) = some (.int (SL (ps.take m))) := fun m hm => ints_at (by rw [List.getElem?_map, List.getElem?_range hm]; rfl)
  have kk := k H2 e4
  unfold exR thereR at kk
  wtm_at "vc"
  refine R.ixuL hD2 (at_ l hl) ?_
  wtm_at "vc"
  (with_reducible refine R.ifd ?_ ?_) <;> intro h
  · rw [if_pos h] at kk
    wtm_at "vc"
    refine R.ixuL hD2 (at_ l hl) ?_
    wtm_at "vc"
    refine R.ixuL hD2 (at_ f (by omega)) ?_
    wtm_at "vs"
    exact ex_tail r0 r1 (e4.l hs) (hp.ex e4) hpl kk
  · rw [if_neg h] at kk
    refine R.next ?_
    exact ex_tail r0 r1 (e4.l hs) (hp.ex e4) hpl kk

/-! the law of k80 -/
def sp_law (K : PySem.W.Frag) : Sp := fun vs H Q _ => ∃ (s : Addr) (ns : List Int), vs = [.ref s] ∧ SqL K H s (ns.map V.int) ∧ ns.length ≤ 1000 ∧ ∀ H', Q (.bl true) H'
theorem len_law {K : PySem.W.Frag} (vs : List V) (H : Hp) (Q : VK) (E : XK) (h : sp_law K vs H Q E) : vs.length = (["script"] : List Str).length := by
  obtain ⟨s, ns, rfl, _⟩ := h; rfl
theorem law_end {K : PySem.W.Frag} {H : Hp} {a : Addr} {ns : List Int} (h : SqL K H a (ns.map V.int)) (hl : ns.length ≤ 63) : sp_law K [.ref a] H (fun v _ => v = .bl true) (fun _ _ _ => False) := ⟨a, ns, rfl, h, by omega, fun _ => rfl⟩
def t_law (K : PySem.W.Frag) (E : XK) : TS :=
  (tSeq (tFor (iRng1 (tCons (tCB U.rMax2 (tCons (tC (.int 1)) (tCons (tCB U.rMin2 (tCons (tCB (U.rLen K) (tCons (tVar 0) tNil)) (tCons (tC (.int 24)) tNil))) tNil))) tNil)) (gName 1)
    (tSeq (tAsg (tCall (sp_law_pool K) [] E (tCons (tVar 0) (tCons (tVar 1) tNil))) (gName 2))
    (tSeq (tAsg (tCall (sp_law_take K) [] E (tCons (tVar 2) (tCons (tC (.int 1001)) tNil))) (gName 3))
    (tSeq (tAsg (tCall (sp_law_rows K) [] E (tCons (tVar 2) (tCons (tVar 3) tNil))) (gName 4))
    (tSeq (tAsg (tCall (sp_least_delay K) [] E (tCons (tVar 4) (tCons (tVar 3) tNil))) (gName 5))
    (tSeq (tIfS (tOr (tNot (tB (tCB (rIsi K) (tCons (tVar 5) (tCons (tC (.ty "int")) tNil))))) (tOr (tTest (tOp U.rLt (tVar 5) (tC (.int 0)))) (tTest (tOp U.rGt (tVar 5) (tOp U.rPow (tC (.int 10)) (tC (.int 8))))))) (tRet (tC (.bl false)))
    tNext)
    (tSeq (tIfS (tNot (tB (tCall (sp_law_same K 3) [] E (tCons (tCall (sp_padding K) [] E (tCons (tVar 4) (tCons (tVar 3) (tCons (tVar 5) (tCons (tOp U.rPow (tC (.int 10)) (tC (.int 9))) tNil))))) (tCons (tLc (U.iSeq K (tVar 4)) (gName 10) tYes (tC (.int 0)) [10]) tNil))))) (tRet (tC (.bl false)))
    tNext)
    (tSeq (tIfS (tTest (tOp U.rGt (tVar 5) (tC (.int 0)))) (tSeq (tAsg (tTup (tCons (tC (.int 0)) (tCons (tCall (sp_law_late K) [] E (tCons (tVar 4) (tCons (tVar 3) (tCons (tOp U.rSub (tVar 5) (tC (.int 1))) tNil)))) tNil))) (gName 7))
    (tIfS (tNot (tB (tCall (sp_law_same K 3) [] E (tCons (tCall (sp_padding K) [] E (tCons (tVar 4) (tCons (tVar 3) (tCons (tOp U.rSub (tVar 5) (tC (.int 1))) (tCons (tOp U.rPow (tC (.int 10)) (tC (.int 9))) tNil))))) (tCons (tVar 7) tNil))))) (tRet (tC (.bl false)))
    tNext))
    tNext)
    (tSeq (tPar 8 9 (tCons (tCall (sp_law_take K) [] E (tCons (tVar 2) (tCons (tC (.int 2000)) tNil))) (tCons (tCall (sp_law_take K) [] E (tCons (tVar 2) (tCons (tC (.int 3000)) tNil))) tNil)))
    (tSeq (tAsg (tCall (sp_padding K) [] E (tCons (tVar 4) (tCons (tVar 3) (tCons (tVar 8) (tCons (tVar 9) tNil))))) (gName 6))
    (tIfS (tB (tCB (rIsi K) (tCons (tVar 6) (tCons (tC (.ty "tuple")) tNil)))) (tSeq (tIfS (tOr (tTest (tOp (U.rNeU K) (tCB (U.rLen K) (tCons (tVar 6) tNil)) (tC (.int 2)))) (tNot (tTest (U.tChain3 U.rLe U.rLe U.rLt (tC (.int 0)) (tOp (rIx K) (tVar 6) (tC (.int 0))) (tOp (rIx K) (tVar 6) (tC (.int 1))) (tCB (U.rLen K) (tCons (tVar 4) tNil)))))) (tRet (tC (.bl false)))
    tNext)
    (tIfS (tNot (tB (tCall (sp_law_exceeds K) [] E (tCons (tVar 4) (tCons (tVar 3) (tCons (tVar 8) (tCons (tVar 9) (tCons (tVar 6) tNil)))))))) (tRet (tC (.bl false)))
    tNext))
    tNext)))))))))))
    (tRet (tC (.bl true))))
theorem rep_snoc (i : Nat) : ((List.replicate i (0 : Int)).map V.int) ++ [.int 0] = (List.replicate (i + 1) (0 : Int)).map V.int := by
  rw [List.replicate_succ', List.map_append]; rfl
/-- the last part: any wait, any store -/
theorem last_part {K : PySem.W.Frag} {E : XK} {D : Ends} {H : Hp} {p q : Addr} {r w st : Int} {f : V} {xs : List V} {ps : List (Int × Int)} {v0 v1 v5 v7 v10 : Option V} (r0 : 0 ≤ r) (r1 : r ≤ 1000000000) (hq : RowsAt K H q xs ps) (hf : PadAt K H f (padR r st ps.length ps 0 0 w 0 []))
    (k : ∀ H', R.Ex H H' → D.nx [v0, v1, some (.ref p), some (.int r), some (.ref q), v5, some f, v7, some (.int w), some (.int st), v10] H') :
    (tIfS (tB (tCB (rIsi K) (tCons (tVar 6) (tCons (tC (.ty "tuple")) tNil)))) (tSeq (tIfS (tOr (tTest (tOp (U.rNeU K) (tCB (U.rLen K) (tCons (tVar 6) tNil)) (tC (.int 2)))) (tNot (tTest (U.tChain3 U.rLe U.rLe U.rLt (tC (.int 0)) (tOp (rIx K) (tVar 6) (tC (.int 0))) (tOp (rIx K) (tVar 6) (tC (.int 1))) (tCB (U.rLen K) (tCons (tVar 4) tNil)))))) (tRet (tC (.bl false)))
    tNext)
    (tIfS (tNot (tB (tCall (sp_law_exceeds K) [] E (tCons (tVar 4) (tCons (tVar 3) (tCons (tVar 8) (tCons (tVar 9) (tCons (tVar 6) tNil)))))))) (tRet (tC (.bl false)))
    tNext))
    tNext) D [v0, v1, some (.ref p), some (.int r), some (.ref q), v5, some f, v7, some (.int w), some (.int st), v10] H := by
  cases hR : padR r st ps.length ps 0 0 w 0 [] with
  | row l =>
    rw [hR] at hf
    obtain ⟨t, rfl, ht⟩ := hf
    wtm_at "vc"
    exact k _ (R.Ex.refl H)
  | pair x y =>
    rw [hR] at hf
    obtain ⟨t, rfl, ht⟩ := hf
    obtain ⟨g, l, pp, rfl, rfl, hgl, hpl, hex⟩ := pad_ex r w st ps ps 0 0 0 w x y [] rfl (Nat.le_refl _) (by show w = w + r * 0; omega) (by show (0 : Int) = 0 - 0 + w - (if ((0 : Nat) : Int) > 0 then _ else w + r * 0); rw [if_neg (by decide)]; omega) hR
    have hl := (List.getElem?_eq_some_iff.mp hpl).1
    have hxl := hq.pr.len
    have hq1 := hq.l
    wtm_at "vc"
    refine R.iteTr (decide_eq_true (by omega)) ?_
    wtm_at "vc"
    refine R.iteFr (by rw [decide_eq_true (show (l : Int) < (xs.length : Int) by omega)]; rfl) ?_
    wtm_at "vc"
    refine ⟨q, r, w, st, t, xs, ps, g, l, pp, rfl, r0, r1, SqL.of hq1, hq.pr, SqT.of ht, hgl, hpl, by have := hq.len; omega, fun H2 e2 => ?_⟩
    rw [hex]
    wtm_at "vc"
    exact k _ e2
theorem rd_law {K : PySem.W.Frag} (vs : List V) (H : Hp) (Q : VK) (E : XK) (h : sp_law K vs H Q E) : t_law K E { nx := fun _ H' => Q .non H', rt := Q } (start ["script", "k", "pool", "speed", "rows", "least", "pair", "due", "wait", "hold", "item"] vs) H := by
  obtain ⟨s, ns, rfl, hs, hl, k⟩ := h
  unfold t_law
  wtm_at "vc"
  generalize hm : (((ns.map V.int).length : Nat) : Int) = m
  rw [List.length_map] at hm
  generalize hj : (if (if 24 < m then 24 else m) > 1 then (if 24 < m then 24 else m) else 1) = j
  have j1 : j ≤ 1000 := by rw [← hj]; split <;> (try split) <;> omega
  have j0 : 0 ≤ j := by rw [← hj]; split <;> (try split) <;> omega
  refine R.rngP (by omega) (by omega) (fun i σ H' => ∃ u1 u2 u3 u4 u5 u6 u7 u8 u9 u10, σ = [some (.ref s), u1, u2, u3, u4, u5, u6, u7, u8, u9, u10] ∧ R.Ex H H') ⟨_, _, _, _, _, _, _, _, _, _, rfl, R.Ex.refl H⟩ ?_ ?_
  · rintro i σ H1 hi ⟨u1, u2, u3, u4, u5, u6, u7, u8, u9, u10, rfl, e1⟩
    wtm_at "vc"
    refine ⟨s, ns, i, rfl, e1.l hs, by omega, fun p H2 np p2 e2 => ?_⟩
    have i2 : TI K H H2 p := ⟨e1.tr e2, e1.free np, p2⟩
    wtm_at "vc"
    refine ⟨p, _, rfl, p2, by decide, by decide, fun r H3 r0 r1 p3 e3 => ?_⟩
    have i3 := i2.take e3 p3
    wtm_at "vc"
    refine ⟨p, r, rfl, p3, r0, by omega, fun H5 q xs ps e5 p5 nq q5 sm => ?_⟩
    have i5 := i3.take e5 p5
    have nqp := p3.other nq
    have hxl := q5.pr.len
    have hxn := q5.len
    have r2 : r ≤ 1000000000 := by omega
    wtm_at "vc"
    refine ⟨true, q, r, xs, ps, rfl, r0, r2, SqL.of q5.l, q5.pr, q5.ok, fun H6 e6 => ?_⟩
    have i6 := i5.ex e6
    have q6 := q5.ex e6
    have g0 := ld_ge r ps
    have gi := ld_in r ps
    have gl := ld_less r ps
    have s1 := SS_le sm
    have s2 := SL_le sm
    have s3 := pos_SL q5.ok
    have gb : ld r ps 0 0 0 ≤ 30000000 := ld_bound r0 ps 0 0 0 _ q5.ok (by decide) (by omega)
    have m0 : 0 ≤ r * SL ps := Int.mul_nonneg r0 s3
    have m1 : r * SL ps ≤ 1000 * 240 := Int.mul_le_mul (by omega) (by omega) s3 (by decide)
    have z1 : padR r 1000000000 ps.length ps 0 0 (ld r ps 0 0 0) 0 [] = .row (List.replicate ps.length 0) := by
      rw [pad_zero r0 ps.length ps 0 0 _ [] q5.ok (by decide) (by omega)]
      rw [late_in r ps 0] at gi
      cases hL : lateR r ps 0 0 (ld r ps 0 0 0) with
      | none => rfl
      | some j => rw [hL] at gi; cases gi
    have z2 : 0 < ld r ps 0 0 0 → ∃ j : Nat, lateR r ps 0 0 (ld r ps 0 0 0 - 1) = some j ∧ padR r 1000000000 ps.length ps 0 0 (ld r ps 0 0 0 - 1) 0 [] = .pair 0 j := by
      intro h
      have gl := gl h
      rw [pad_zero r0 ps.length ps 0 0 _ [] q5.ok (by decide) (by omega)]
      rw [late_in r ps 0] at gl
      cases hL : lateR r ps 0 0 (ld r ps 0 0 0 - 1) with
      | none => rw [hL] at gl; cases gl
      | some j => exact ⟨j, rfl, rfl⟩
    generalize ld r ps 0 0 0 = f at *
    wtm_at "vc"
    refine R.iteFr (decide_eq_false (by omega)) ?_
    wtm_at "vc"
    refine R.iteFr (decide_eq_false (by omega)) ?_
    wtm_at "vc"
    refine ⟨true, q, r, f, 1000000000, xs, ps, rfl, r0, r2, g0, by omega, by decide, by decide, SqL.of q6.l, q6.pr, q6.ok, by omega, fun v H7 e7 nv hv => ?_⟩
    rw [z1] at hv
    have hv := hv.dp
    have i7 := i6.ex e7
    have q7 := q6.ex e7
    wtm_at "vc"
    refine R.lcV (l := true) (xs := xs) rfl (SqL.of q7.l) (fun D i H' => R.Ex H7 H' ∧ H7 D = none ∧ H' D = some (.lst ((List.replicate i (0 : Int)).map V.int))) (fun D n => ⟨R.Ex.new n, n, upd_same⟩) (fun D i H' e => SqL.of (e.1 _ _ q7.l)) ?_ ?_
    · rintro D i x H' hx ⟨e, nD, hD⟩
      have hl3 : ((List.replicate i (0 : Int)).map V.int).length < sizeLine := by
        have := (List.getElem?_eq_some_iff.mp hx).1
        rw [sizeLine_eq, List.length_map, List.length_replicate]; omega
      wtm_at "vc"
      refine ⟨_, hD, hl3, ?_⟩
      rw [rep_snoc]
      exact ⟨e.mut nD, nD, upd_same⟩
    rintro z H8 ⟨e8, nz, hz⟩
    have i8 := i7.ex e8
    have q8 := q7.ex e8
    rw [hxl] at hz
    wtm_at "vc"
    refine ⟨v, .ref z, _, rfl, dp_ex e8 hv, .lst (SqL.of hz) (ints_dp _), Nat.le_trans (padD_depth (.row (List.replicate ps.length 0))) (by decide), fun H9 e9 => ?_⟩
    have i9 := i8.ex e9
    have q9 := q8.ex e9
    wtm_at "vc"
    have rest : ∀ H10, TI K H H10 p → RowsAt K H10 q xs ps → ∀ u7 : Option V, (tSeq (tPar 8 9 (tCons (tCall (sp_law_take K) [] E (tCons (tVar 2) (tCons (tC (.int 2000)) tNil))) (tCons (tCall (sp_law_take K) [] E (tCons (tVar 2) (tCons (tC (.int 3000)) tNil))) tNil)))
    (tSeq (tAsg (tCall (sp_padding K) [] E (tCons (tVar 4) (tCons (tVar 3) (tCons (tVar 8) (tCons (tVar 9) tNil))))) (gName 6))
    (tIfS (tB (tCB (rIsi K) (tCons (tVar 6) (tCons (tC (.ty "tuple")) tNil)))) (tSeq (tIfS (tOr (tTest (tOp (U.rNeU K) (tCB (U.rLen K) (tCons (tVar 6) tNil)) (tC (.int 2)))) (tNot (tTest (U.tChain3 U.rLe U.rLe U.rLt (tC (.int 0)) (tOp (rIx K) (tVar 6) (tC (.int 0))) (tOp (rIx K) (tVar 6) (tC (.int 1))) (tCB (U.rLen K) (tCons (tVar 4) tNil)))))) (tRet (tC (.bl false)))
    tNext)
    (tIfS (tNot (tB (tCall (sp_law_exceeds K) [] E (tCons (tVar 4) (tCons (tVar 3) (tCons (tVar 8) (tCons (tVar 9) (tCons (tVar 6) tNil)))))))) (tRet (tC (.bl false)))
    tNext))
    tNext)))
      { nx := fun σ H' => ∃ u1 u2 u3 u4 u5 u6 u7 u8 u9 u10, σ = [some (.ref s), u1, u2, u3, u4, u5, u6, u7, u8, u9, u10] ∧ R.Ex H H', ct := fun σ H' => ∃ u1 u2 u3 u4 u5 u6 u7 u8 u9 u10, σ = [some (.ref s), u1, u2, u3, u4, u5, u6, u7, u8, u9, u10] ∧ R.Ex H H', bk := tRet (tC (.bl true)) { nx := fun _ H' => Q .non H', rt := Q }, rt := Q }
      [some (.ref s), some (.int (i : Nat)), some (.ref p), some (.int r), some (.ref q), some (.int f), u6, u7, u8, u9, u10] H10 := by
      intro H10 i10 q10 u7
      wtm_at "vc"
      refine ⟨p, _, rfl, i10.pl, by decide, by decide, fun w H11 w0 w1 p11 e11 => ?_⟩
      have i11 := i10.take e11 p11
      have q11 := q10.take nqp i10.pl e11
      wtm_at "vc"
      refine ⟨p, _, rfl, i11.pl, by decide, by decide, fun st H12 t0 t1 p12 e12 => ?_⟩
      have i12 := i11.take e12 p12
      have q12 := q11.take nqp i11.pl e12
      wtm_at "vc"
      refine ⟨true, q, r, w, st, xs, ps, rfl, r0, r2, w0, by omega, t0, by omega, SqL.of q12.l, q12.pr, q12.ok, by omega, fun v H13 e13 nv hv => ?_⟩
      have i13 := i12.ex e13
      have q13 := q12.ex e13
      refine R.gname ?_
      refine last_part r0 r2 q13 hv fun H14 e14 => ?_
      exact ⟨_, _, _, _, _, _, _, _, _, _, rfl, i13.e.tr e14⟩
    (with_reducible refine R.ifd ?_ ?_) <;> intro h
    · obtain ⟨j, hj1, hj2⟩ := z2 h
      wtm_at "vc"
      refine ⟨q, r, f - 1, xs, ps, rfl, r0, r2, SqL.of q9.l, q9.pr, fun H10 e10 => ?_⟩
      rw [hj1]
      have i10 := i9.ex e10
      have q10 := q9.ex e10
      wtm_at "vc"
      refine ⟨by show 2 ≤ sizeLine; decide, fun t nt => ?_⟩
      have i11 := i10.new (o := .tup [.int 0, .int (j : Nat)]) nt
      have q11 := q10.ex (R.Ex.new (o := .tup [.int 0, .int (j : Nat)]) nt)
      have ht : (upd H10 t (.tup [.int 0, .int (j : Nat)])) t = some (.tup [.int 0, .int (j : Nat)]) := upd_same
      have hlv : lateV (some j) = .int (j : Nat) := rfl
      rw [hlv]
      generalize upd H10 t (.tup [.int 0, .int (j : Nat)]) = H11 at *
      wtm_at "vc"
      refine ⟨true, q, r, f - 1, 1000000000, xs, ps, rfl, r0, r2, by omega, by omega, by decide, by decide, SqL.of q11.l, q11.pr, q11.ok, by omega, fun v H12 e12 nv hv => ?_⟩
      rw [hj2] at hv
      have hv := hv.dp
      wtm_at "vc"
      refine ⟨v, .ref t, _, rfl, hv, .tup (SqT.of (e12 _ _ ht)) (.cons (.int _) (.cons (.int _) .nil)), Nat.le_trans (padD_depth (.pair 0 j)) (by decide), fun H13 e13 => ?_⟩
      wtm_at "vs"
      exact rest _ ((i11.ex e12).ex e13) ((q11.ex e12).ex e13) _
    · refine R.next ?_
      exact rest _ i9 q9 _
  · rintro σ H1 ⟨u1, u2, u3, u4, u5, u6, u7, u8, u9, u10, rfl, e1⟩
    wtm_at "vc"
    exact k _

set_option maxHeartbeats 0
/-! the text by places -/
def top (i : Nat) : Stmt := PySem.Challenge.pw_framejoins_k80_whole_delay_and_padding.main.body.getD i (.Pass ⟨0, 0, 0, 0⟩)
abbrev s_law_exceeds : Stmt := top 20
abbrev s_is_integer : Stmt := top 5
abbrev s_is_between : Stmt := top 6
abbrev s_require_number : Stmt := top 10
abbrev s_is_row : Stmt := top 7
abbrev s_require_sizes : Stmt := top 11
abbrev s_padding : Stmt := top 13
abbrev s_law_take : Stmt := top 16
abbrev s_law_same : Stmt := top 17
abbrev s_law_late : Stmt := top 19
abbrev s_least_delay : Stmt := top 12
abbrev s_law_rows : Stmt := top 18
abbrev s_law_pool : Stmt := top 15
abbrev s_law : Stmt := top 21
/-! facts -/
def f_law_exceeds : He.DefD := ⟨("_law_exceeds", none), "_law_exceeds", "_law_exceeds", defArgs s_law_exceeds, defBody s_law_exceeds, defScope s_law_exceeds, [], []⟩
def f_is_integer : He.DefD := ⟨("is_integer", none), "is_integer", "is_integer", defArgs s_is_integer, defBody s_is_integer, defScope s_is_integer, [], []⟩
def f_is_between : He.DefD := ⟨("is_between", none), "is_between", "is_between", defArgs s_is_between, defBody s_is_between, defScope s_is_between, [], []⟩
def f_require_number : He.DefD := ⟨("require_number", none), "require_number", "require_number", defArgs s_require_number, defBody s_require_number, defScope s_require_number, [], []⟩
def f_is_row : He.DefD := ⟨("is_row", none), "is_row", "is_row", defArgs s_is_row, defBody s_is_row, defScope s_is_row, [], []⟩
def f_require_sizes : He.DefD := ⟨("require_sizes", none), "require_sizes", "require_sizes", defArgs s_require_sizes, defBody s_require_sizes, defScope s_require_sizes, [], []⟩
def f_padding : He.DefD := ⟨("padding", none), "padding", "padding", defArgs s_padding, defBody s_padding, defScope s_padding, [], []⟩
def f_law_take : He.DefD := ⟨("_law_take", none), "_law_take", "_law_take", defArgs s_law_take, defBody s_law_take, defScope s_law_take, [], []⟩
def f_law_same : He.DefD := ⟨("_law_same", none), "_law_same", "_law_same", defArgs s_law_same, defBody s_law_same, defScope s_law_same, [], []⟩
def f_law_late : He.DefD := ⟨("_law_late", none), "_law_late", "_law_late", defArgs s_law_late, defBody s_law_late, defScope s_law_late, [], []⟩
def f_least_delay : He.DefD := ⟨("least_delay", none), "least_delay", "least_delay", defArgs s_least_delay, defBody s_least_delay, defScope s_least_delay, [], []⟩
def f_law_rows : He.DefD := ⟨("_law_rows", none), "_law_rows", "_law_rows", defArgs s_law_rows, defBody s_law_rows, defScope s_law_rows, [], []⟩
def f_law_pool : He.DefD := ⟨("_law_pool", none), "_law_pool", "_law_pool", defArgs s_law_pool, defBody s_law_pool, defScope s_law_pool, [], []⟩
def f_law : He.DefD := ⟨("law", none), "law", "law", defArgs s_law, defBody s_law, defScope s_law, [], []⟩
def fn : List He.DefD := [f_law_exceeds, f_is_integer, f_is_between, f_require_number, f_is_row, f_require_sizes, f_padding, f_law_take, f_law_same, f_law_late, f_least_delay, f_law_rows, f_law_pool, f_law]
def fa : List He.Fa := [.glo "_law_exceeds",
  .glo "is_integer",
  .glo "is_between",
  .glo "require_number",
  .glo "is_row",
  .glo "require_sizes",
  .glo "padding",
  .glo "_law_take",
  .glo "_law_same",
  .glo "_law_late",
  .glo "least_delay",
  .glo "_law_rows",
  .glo "_law_pool",
  .glo "law",
  .free "abs",
  .free "bool",
  .free "enumerate",
  .free "int",
  .free "isinstance",
  .free "len",
  .free "list",
  .free "max",
  .free "min",
  .free "range",
  .free "str",
  .free "sum",
  .free "tuple",
  .free "zip",
  .int "MOST" 1000000000]
structure Env (P : Program) (w : World) (K : PySem.W.Frag) (mg : Str → Option Value) (base : Heap) : Prop where
  X : ∃ h : Heap, K.In h ∧ h.Ns mainGlobals mg
  c : He.SaysD fa fn K
section
variable {P : Program} {w : World} {K : PySem.W.Frag} {mg : Str → Option Value} {base : Heap}
theorem Env.g_law_exceeds (e : Env P w K mg base) : mg "_law_exceeds" = some (.ref (He.ga K "_law_exceeds")) := let ⟨_, X, G⟩ := e.X; He.glo_ok X G (e.c.fact 0 (f := .glo "_law_exceeds") rfl)
theorem Env.g_is_integer (e : Env P w K mg base) : mg "is_integer" = some (.ref (He.ga K "is_integer")) := let ⟨_, X, G⟩ := e.X; He.glo_ok X G (e.c.fact 1 (f := .glo "is_integer") rfl)
theorem Env.g_is_between (e : Env P w K mg base) : mg "is_between" = some (.ref (He.ga K "is_between")) := let ⟨_, X, G⟩ := e.X; He.glo_ok X G (e.c.fact 2 (f := .glo "is_between") rfl)
theorem Env.g_require_number (e : Env P w K mg base) : mg "require_number" = some (.ref (He.ga K "require_number")) := let ⟨_, X, G⟩ := e.X; He.glo_ok X G (e.c.fact 3 (f := .glo "require_number") rfl)
theorem Env.g_is_row (e : Env P w K mg base) : mg "is_row" = some (.ref (He.ga K "is_row")) := let ⟨_, X, G⟩ := e.X; He.glo_ok X G (e.c.fact 4 (f := .glo "is_row") rfl)
theorem Env.g_require_sizes (e : Env P w K mg base) : mg "require_sizes" = some (.ref (He.ga K "require_sizes")) := let ⟨_, X, G⟩ := e.X; He.glo_ok X G (e.c.fact 5 (f := .glo "require_sizes") rfl)
theorem Env.g_padding (e : Env P w K mg base) : mg "padding" = some (.ref (He.ga K "padding")) := let ⟨_, X, G⟩ := e.X; He.glo_ok X G (e.c.fact 6 (f := .glo "padding") rfl)
theorem Env.g_law_take (e : Env P w K mg base) : mg "_law_take" = some (.ref (He.ga K "_law_take")) := let ⟨_, X, G⟩ := e.X; He.glo_ok X G (e.c.fact 7 (f := .glo "_law_take") rfl)
theorem Env.g_law_same (e : Env P w K mg base) : mg "_law_same" = some (.ref (He.ga K "_law_same")) := let ⟨_, X, G⟩ := e.X; He.glo_ok X G (e.c.fact 8 (f := .glo "_law_same") rfl)
theorem Env.g_law_late (e : Env P w K mg base) : mg "_law_late" = some (.ref (He.ga K "_law_late")) := let ⟨_, X, G⟩ := e.X; He.glo_ok X G (e.c.fact 9 (f := .glo "_law_late") rfl)
theorem Env.g_least_delay (e : Env P w K mg base) : mg "least_delay" = some (.ref (He.ga K "least_delay")) := let ⟨_, X, G⟩ := e.X; He.glo_ok X G (e.c.fact 10 (f := .glo "least_delay") rfl)
theorem Env.g_law_rows (e : Env P w K mg base) : mg "_law_rows" = some (.ref (He.ga K "_law_rows")) := let ⟨_, X, G⟩ := e.X; He.glo_ok X G (e.c.fact 11 (f := .glo "_law_rows") rfl)
theorem Env.g_law_pool (e : Env P w K mg base) : mg "_law_pool" = some (.ref (He.ga K "_law_pool")) := let ⟨_, X, G⟩ := e.X; He.glo_ok X G (e.c.fact 12 (f := .glo "_law_pool") rfl)
theorem Env.g_law (e : Env P w K mg base) : mg "law" = some (.ref (He.ga K "law")) := let ⟨_, X, G⟩ := e.X; He.glo_ok X G (e.c.fact 13 (f := .glo "law") rfl)
theorem Env.b_abs (e : Env P w K mg base) : mg "abs" = none := let ⟨_, X, G⟩ := e.X; He.free_ok X G (e.c.fact 14 (f := .free "abs") rfl)
theorem Env.b_bool (e : Env P w K mg base) : mg "bool" = none := let ⟨_, X, G⟩ := e.X; He.free_ok X G (e.c.fact 15 (f := .free "bool") rfl)
theorem Env.b_enumerate (e : Env P w K mg base) : mg "enumerate" = none := let ⟨_, X, G⟩ := e.X; He.free_ok X G (e.c.fact 16 (f := .free "enumerate") rfl)
theorem Env.b_int (e : Env P w K mg base) : mg "int" = none := let ⟨_, X, G⟩ := e.X; He.free_ok X G (e.c.fact 17 (f := .free "int") rfl)
theorem Env.b_isinstance (e : Env P w K mg base) : mg "isinstance" = none := let ⟨_, X, G⟩ := e.X; He.free_ok X G (e.c.fact 18 (f := .free "isinstance") rfl)
theorem Env.b_len (e : Env P w K mg base) : mg "len" = none := let ⟨_, X, G⟩ := e.X; He.free_ok X G (e.c.fact 19 (f := .free "len") rfl)
theorem Env.b_list (e : Env P w K mg base) : mg "list" = none := let ⟨_, X, G⟩ := e.X; He.free_ok X G (e.c.fact 20 (f := .free "list") rfl)
theorem Env.b_max (e : Env P w K mg base) : mg "max" = none := let ⟨_, X, G⟩ := e.X; He.free_ok X G (e.c.fact 21 (f := .free "max") rfl)
theorem Env.b_min (e : Env P w K mg base) : mg "min" = none := let ⟨_, X, G⟩ := e.X; He.free_ok X G (e.c.fact 22 (f := .free "min") rfl)
theorem Env.b_range (e : Env P w K mg base) : mg "range" = none := let ⟨_, X, G⟩ := e.X; He.free_ok X G (e.c.fact 23 (f := .free "range") rfl)
theorem Env.b_str (e : Env P w K mg base) : mg "str" = none := let ⟨_, X, G⟩ := e.X; He.free_ok X G (e.c.fact 24 (f := .free "str") rfl)
theorem Env.b_sum (e : Env P w K mg base) : mg "sum" = none := let ⟨_, X, G⟩ := e.X; He.free_ok X G (e.c.fact 25 (f := .free "sum") rfl)
theorem Env.b_tuple (e : Env P w K mg base) : mg "tuple" = none := let ⟨_, X, G⟩ := e.X; He.free_ok X G (e.c.fact 26 (f := .free "tuple") rfl)
theorem Env.b_zip (e : Env P w K mg base) : mg "zip" = none := let ⟨_, X, G⟩ := e.X; He.free_ok X G (e.c.fact 27 (f := .free "zip") rfl)
theorem Env.g_MOST (e : Env P w K mg base) : ∃ u, mg "MOST" = some u ∧ RelV c_MOST u := by
  obtain ⟨_, X, G⟩ := e.X
  obtain ⟨t, h⟩ := He.int_ok X G (e.c.fact 28 (f := .int "MOST" 1000000000) rfl)
  exact ⟨_, h, t, rfl⟩
theorem Env.d_law_exceeds (e : Env P w K mg base) : ∃ fd, FunD K "_law_exceeds" "_law_exceeds" (defArgs s_law_exceeds) (defBody s_law_exceeds) (defScope s_law_exceeds) [] [] (He.ga K "_law_exceeds") fd := e.c.def_ 0 (d := f_law_exceeds) rfl
theorem Env.d_is_integer (e : Env P w K mg base) : ∃ fd, FunD K "is_integer" "is_integer" (defArgs s_is_integer) (defBody s_is_integer) (defScope s_is_integer) [] [] (He.ga K "is_integer") fd := e.c.def_ 1 (d := f_is_integer) rfl
theorem Env.d_is_between (e : Env P w K mg base) : ∃ fd, FunD K "is_between" "is_between" (defArgs s_is_between) (defBody s_is_between) (defScope s_is_between) [] [] (He.ga K "is_between") fd := e.c.def_ 2 (d := f_is_between) rfl
theorem Env.d_require_number (e : Env P w K mg base) : ∃ fd, FunD K "require_number" "require_number" (defArgs s_require_number) (defBody s_require_number) (defScope s_require_number) [] [] (He.ga K "require_number") fd := e.c.def_ 3 (d := f_require_number) rfl
theorem Env.d_is_row (e : Env P w K mg base) : ∃ fd, FunD K "is_row" "is_row" (defArgs s_is_row) (defBody s_is_row) (defScope s_is_row) [] [] (He.ga K "is_row") fd := e.c.def_ 4 (d := f_is_row) rfl
theorem Env.d_require_sizes (e : Env P w K mg base) : ∃ fd, FunD K "require_sizes" "require_sizes" (defArgs s_require_sizes) (defBody s_require_sizes) (defScope s_require_sizes) [] [] (He.ga K "require_sizes") fd := e.c.def_ 5 (d := f_require_sizes) rfl
theorem Env.d_padding (e : Env P w K mg base) : ∃ fd, FunD K "padding" "padding" (defArgs s_padding) (defBody s_padding) (defScope s_padding) [] [] (He.ga K "padding") fd := e.c.def_ 6 (d := f_padding) rfl
theorem Env.d_law_take (e : Env P w K mg base) : ∃ fd, FunD K "_law_take" "_law_take" (defArgs s_law_take) (defBody s_law_take) (defScope s_law_take) [] [] (He.ga K "_law_take") fd := e.c.def_ 7 (d := f_law_take) rfl
theorem Env.d_law_same (e : Env P w K mg base) : ∃ fd, FunD K "_law_same" "_law_same" (defArgs s_law_same) (defBody s_law_same) (defScope s_law_same) [] [] (He.ga K "_law_same") fd := e.c.def_ 8 (d := f_law_same) rfl
theorem Env.d_law_late (e : Env P w K mg base) : ∃ fd, FunD K "_law_late" "_law_late" (defArgs s_law_late) (defBody s_law_late) (defScope s_law_late) [] [] (He.ga K "_law_late") fd := e.c.def_ 9 (d := f_law_late) rfl
theorem Env.d_least_delay (e : Env P w K mg base) : ∃ fd, FunD K "least_delay" "least_delay" (defArgs s_least_delay) (defBody s_least_delay) (defScope s_least_delay) [] [] (He.ga K "least_delay") fd := e.c.def_ 10 (d := f_least_delay) rfl
theorem Env.d_law_rows (e : Env P w K mg base) : ∃ fd, FunD K "_law_rows" "_law_rows" (defArgs s_law_rows) (defBody s_law_rows) (defScope s_law_rows) [] [] (He.ga K "_law_rows") fd := e.c.def_ 11 (d := f_law_rows) rfl
theorem Env.d_law_pool (e : Env P w K mg base) : ∃ fd, FunD K "_law_pool" "_law_pool" (defArgs s_law_pool) (defBody s_law_pool) (defScope s_law_pool) [] [] (He.ga K "_law_pool") fd := e.c.def_ 12 (d := f_law_pool) rfl
theorem Env.d_law (e : Env P w K mg base) : ∃ fd, FunD K "law" "law" (defArgs s_law) (defBody s_law) (defScope s_law) [] [] (He.ga K "law") fd := e.c.def_ 13 (d := f_law) rfl
end
/-! scopes -/
theorem sc_law_exceeds : FnScope ["sizes", "rate", "delay", "store", "pair", "starts", "need", "there", "first", "last", "at", "item"] ["sizes", "rate", "delay", "store", "pair"] (defScope s_law_exceeds) := ⟨rfl, rfl, rfl, by decide +kernel, rfl, by decide +kernel, by decide +kernel⟩
theorem sc_is_integer : FnScope ["value"] ["value"] (defScope s_is_integer) := ⟨rfl, rfl, rfl, by decide +kernel, rfl, by decide +kernel, by decide +kernel⟩
theorem sc_is_between : FnScope ["value", "least", "most"] ["value", "least", "most"] (defScope s_is_between) := ⟨rfl, rfl, rfl, by decide +kernel, rfl, by decide +kernel, by decide +kernel⟩
theorem sc_require_number : FnScope ["value"] ["value"] (defScope s_require_number) := ⟨rfl, rfl, rfl, by decide +kernel, rfl, by decide +kernel, by decide +kernel⟩
theorem sc_is_row : FnScope ["value"] ["value"] (defScope s_is_row) := ⟨rfl, rfl, rfl, by decide +kernel, rfl, by decide +kernel, by decide +kernel⟩
theorem sc_require_sizes : FnScope ["sizes", "index", "item"] ["sizes"] (defScope s_require_sizes) := ⟨rfl, rfl, rfl, by decide +kernel, rfl, by decide +kernel, by decide +kernel⟩
theorem sc_padding : FnScope ["sizes", "rate", "delay", "store", "value", "found", "total", "arrived", "first", "frame", "later", "added", "size", "length"] ["sizes", "rate", "delay", "store"] (defScope s_padding) := ⟨rfl, rfl, rfl, by decide +kernel, rfl, by decide +kernel, by decide +kernel⟩
theorem sc_law_take : FnScope ["pool", "many", "found"] ["pool", "many"] (defScope s_law_take) := ⟨rfl, rfl, rfl, by decide +kernel, rfl, by decide +kernel, by decide +kernel⟩
theorem sc_law_same : FnScope ["actual", "due", "one", "other"] ["actual", "due"] (defScope s_law_same) := ⟨rfl, rfl, rfl, by decide +kernel, rfl, by decide +kernel, by decide +kernel⟩
theorem sc_law_late : FnScope ["sizes", "rate", "delay", "total", "arrived", "at", "item"] ["sizes", "rate", "delay"] (defScope s_law_late) := ⟨rfl, rfl, rfl, by decide +kernel, rfl, by decide +kernel, by decide +kernel⟩
theorem sc_least_delay : FnScope ["sizes", "rate", "found", "total", "delivered", "size", "length"] ["sizes", "rate"] (defScope s_least_delay) := ⟨rfl, rfl, rfl, by decide +kernel, rfl, by decide +kernel, by decide +kernel⟩
theorem sc_law_rows : FnScope ["pool", "rate", "found", "turn", "many", "near"] ["pool", "rate"] (defScope s_law_rows) := ⟨rfl, rfl, rfl, by decide +kernel, rfl, by decide +kernel, by decide +kernel⟩
theorem sc_law_pool : FnScope ["script", "k", "cell", "great", "seed"] ["script", "k"] (defScope s_law_pool) := ⟨rfl, rfl, rfl, by decide +kernel, rfl, by decide +kernel, by decide +kernel⟩
theorem sc_law : FnScope ["script", "k", "pool", "speed", "rows", "least", "pair", "due", "wait", "hold", "item"] ["script"] (defScope s_law) := ⟨rfl, rfl, rfl, by decide +kernel, rfl, by decide +kernel, by decide +kernel⟩
/-! the head -/
abbrev R : PySem.W.OpenRow := PySem.W.OpenLaw.row PySem.Challenge.rw_framejoins_k80_whole_delay_and_padding
abbrev hk : PySem.W.Hook := He.hookD 4 fa fn
def ob (s : PySem.W.SharedT) : He.AlD := He.obsDG 4 fa fn (HandSHeadRun.getT s)
theorem ob_eq (s : PySem.W.SharedT) : ob s = hk.obs s.abs := He.obsDG_eq (HandSHeadRun.getT_eq s)
theorem run (w : World) : HandSHeadRun.RunEq R (PySem.W.view R.prog [21]) hk ob 4000 ["JoinError", "InvalidNumber", "InvalidPlan", "is_integer", "is_between", "is_row", "MOST", "require_number", "require_sizes", "least_delay", "padding", "_law_pool", "_law_take", "_law_same", "_law_rows", "_law_late", "_law_exceeds"] w := by
  intro os
  kernel_rfl

section
variable {P : Program} {w : World} {K : PySem.W.Frag} {mg : Str → Option Value} {base : Heap}
theorem ok_law_exceeds (e : Env P w K mg base) : U.GFn P w K mg base 1 "_law_exceeds" ["sizes", "rate", "delay", "store", "pair"] (sp_law_exceeds K) := by
  obtain ⟨fd, F⟩ := e.d_law_exceeds
  refine ⟨_, fd, F.ok sc_law_exceeds len_law_exceeds (fun cdv A outer s H vs Q E hr h => ⟨t_law_exceeds K E, ?_, rd_law_exceeds vs H Q E h⟩), e.g_law_exceeds, F.kp, FunD.bindsN F fun _ _ _ _ _ _ us hl => match us, hl with | [_, _, _, _, _], _ => rfl⟩
  exact U.body fun px1 po1 => (pss_cons (ps_asg (pv 4) (pg_tup rfl (pgs_cons (pg_name (i := 8) sc_law_exceeds.nd rfl (Or.inl rfl)) (pgs_cons (pg_name (i := 9) sc_law_exceeds.nd rfl (Or.inl rfl)) pgs_nil))))
    (pss_cons (ps_setLc (i := 5) (own := [("at", 10)]) rfl sc_law_exceeds.nd rfl rfl (sw_true rfl rfl rfl (by decide +kernel)) (pi_range1 (by rfl) e.b_range (pa_cons (pe_callB U.call_ln (by rfl) e.b_len PySem.boot_len (pa_cons (pv 0) pa_nil)) pa_nil)) (blkOk_by (own := [("at", 10)]) (N := ["sizes", "rate", "delay", "store", "pair", "starts", "need", "there", "first", "last", "at", "item"]) (sc := defScope s_law_exceeds) (by decide +kernel)) (fun _ _ _ _ _ => (pg_name (i := 10) sc_law_exceeds.nd rfl (Or.inl rfl))) (fun _ _ _ _ _ => pts_nil) (fun _ _ _ _ _ => (pe_callB (cr_sum rfl) (by rfl) e.b_sum PyProof.Rows.boot_sum (pa_cons (pe_lc (own := [("item", 11)]) rfl sc_law_exceeds.nd (U.pi_seq (pe_slice U.sl_u (pv 0) po_none (po_some (pv 10)))) (blkOk_by (own := [("item", 11)]) (by kernel_rfl)) (fun _ _ _ _ _ => (pg_name (i := 11) sc_law_exceeds.nd rfl (Or.inl rfl))) (fun _ _ _ _ _ => pts_nil) (fun _ _ _ _ _ => (pe_ix ix_seq (pv 11) pe_int (fun _ _ => rfl)))) pa_nil))))
    (pss_cons (ps_set (i := 6) sc_law_exceeds.nd rfl (Or.inl rfl) (pe_callB (cr_sum rfl) (by rfl) e.b_sum PyProof.Rows.boot_sum (pa_cons (pe_lc (own := [("item", 11)]) rfl sc_law_exceeds.nd (U.pi_seq (pe_slice U.sl_u (pv 0) (po_some (pv 8)) (po_some (pe_op U.op_ad (pv 9) pe_int)))) (blkOk_by (own := [("item", 11)]) (N := ["sizes", "rate", "delay", "store", "pair", "starts", "need", "there", "first", "last", "at", "item"]) (sc := defScope s_law_exceeds) (by decide +kernel)) (fun _ _ _ _ _ => (pg_name (i := 11) sc_law_exceeds.nd rfl (Or.inl rfl))) (fun _ _ _ _ _ => pts_nil) (fun _ _ _ _ _ => (pe_ix ix_seq (pv 11) pe_int (fun _ _ => rfl)))) pa_nil)))
    (pss_cons (ps_set (i := 7) sc_law_exceeds.nd rfl (Or.inl rfl) (pe_op U.op_ad (pv 2) (pe_op U.op_ml (pv 1) (pe_ix ix_seq (pv 5) (pv 9) (fun _ _ => rfl)))))
    (pss_cons (ps_if (pt_cmpR op_gt (pv 8) pe_int (nomark _)) (pss_one (ps_set (i := 7) sc_law_exceeds.nd rfl (Or.inl rfl) (pe_op U.op_ad (pv 3) (pe_op U.op_ml (pv 1) (pe_op op_sub (pe_ix ix_seq (pv 5) (pv 9) (fun _ _ => rfl)) (pe_ix ix_seq (pv 5) (pv 8) (fun _ _ => rfl)))))))
    pss_nil)
    (pss_cons (ps_if (pt_cmpR op_lt (pe_op U.op_ad (pv 9) pe_int) (pe_callB U.call_ln (by rfl) e.b_len PySem.boot_len (pa_cons (pv 0) pa_nil)) (nomark _)) (pss_one (ps_set (i := 6) sc_law_exceeds.nd rfl (Or.inl rfl) (pe_callB (call_max2 rfl) (by rfl) e.b_max PyProof.Rows.boot_max (pa_cons (pv 6) (pa_cons (pe_op op_sub (pe_op U.op_ad (pv 7) (pe_op U.op_ml (pv 1) (pe_ix ix_seq (pe_ix ix_seq (pv 0) (pv 9) (fun _ _ => rfl)) pe_int (fun _ _ => rfl)))) (pv 3)) pa_nil)))))
    pss_nil)
    (pss_one (ps_ret (pe_cmpR op_gt (pv 6) (pv 7) (nomark _))))))))))
theorem ok_is_integer (e : Env P w K mg base) : U.GFn P w K mg base 1 "is_integer" ["value"] (sp_is_integer K) := by
  obtain ⟨fd, F⟩ := e.d_is_integer
  refine ⟨_, fd, F.ok sc_is_integer len_is_integer (fun cdv A outer s H vs Q E hr h => ⟨t_is_integer K E, ?_, rd_is_integer vs H Q E h⟩), e.g_is_integer, F.kp, FunD.bindsN F fun _ _ _ _ _ _ us hl => match us, hl with | [_], _ => rfl⟩
  exact U.body fun px1 po1 => (pss_one (ps_ret (pe_and (pe_callB call_isi (by rfl) e.b_isinstance PyProof.Rows.boot_isinstance (pa_cons (pv 0) (pa_cons (pe_bltn rfl e.b_int PyProof.Rows.boot_int rfl) pa_nil))) (pe_one (pe_not (pe_callB call_isi (by rfl) e.b_isinstance PyProof.Rows.boot_isinstance (pa_cons (pv 0) (pa_cons (pe_bltn rfl e.b_bool PyProof.Rows.boot_bool rfl) pa_nil))))))))
theorem ok_is_between (e : Env P w K mg base) : U.GFn P w K mg base 2 "is_between" ["value", "least", "most"] (sp_is_between K) := by
  have G_is_integer := ok_is_integer e
  obtain ⟨fd, F⟩ := e.d_is_between
  refine ⟨_, fd, F.ok sc_is_between len_is_between (fun cdv A outer s H vs Q E hr h => ⟨t_is_between K E, ?_, rd_is_between vs H Q E h⟩), e.g_is_between, F.kp, FunD.bindsN F fun _ _ _ _ _ _ us hl => match us, hl with | [_, _, _], _ => rfl⟩
  exact U.body fun px1 po1 => (pss_one (ps_ret (pe_and (U.pe_g G_is_integer (hr.mono (by omega)) rfl px1 (pa_cons (pv 0) pa_nil)) (pe_one (pe_chain op_le op_le (pv 1) (pv 0) (pv 2))))))
theorem ok_require_number (e : Env P w K mg base) : U.GFn P w K mg base 3 "require_number" ["value"] (sp_require_number K) := by
  have G_is_between := ok_is_between e
  obtain ⟨fd, F⟩ := e.d_require_number
  refine ⟨_, fd, F.ok sc_require_number len_require_number (fun cdv A outer s H vs Q E hr h => ⟨t_require_number K E, ?_, rd_require_number vs H Q E h⟩), e.g_require_number, F.kp, FunD.bindsN F fun _ _ _ _ _ _ us hl => match us, hl with | [_], _ => rfl⟩
  exact U.body fun px1 po1 => (pss_one (ps_if (pt_not (pt_val (U.pe_g G_is_between (hr.mono (by omega)) rfl px1 (pa_cons (pv 0) (pa_cons pe_int (pa_cons (U.pe_gc rfl e.g_MOST) pa_nil)))))) (pss_one U.ps_never)
    pss_nil))
theorem ok_is_row (e : Env P w K mg base) : U.GFn P w K mg base 1 "is_row" ["value"] (sp_is_row K) := by
  obtain ⟨fd, F⟩ := e.d_is_row
  refine ⟨_, fd, F.ok sc_is_row len_is_row (fun cdv A outer s H vs Q E hr h => ⟨t_is_row K E, ?_, rd_is_row vs H Q E h⟩), e.g_is_row, F.kp, FunD.bindsN F fun _ _ _ _ _ _ us hl => match us, hl with | [_], _ => rfl⟩
  exact U.body fun px1 po1 => (pss_one (ps_ret (pe_callB call_isiT (by rfl) e.b_isinstance PyProof.Rows.boot_isinstance (pa_cons (pv 0) (pa_cons (pe_tup (pa_cons (pe_bltn rfl e.b_list PyProof.Rows.boot_list rfl) (pa_cons (pe_bltn rfl e.b_tuple PyProof.Rows.boot_tuple rfl) pa_nil))) pa_nil)))))
theorem ok_require_sizes (e : Env P w K mg base) : U.GFn P w K mg base 3 "require_sizes" ["sizes"] (sp_require_sizes K) := by
  have G_is_between := ok_is_between e
  have G_is_row := ok_is_row e
  obtain ⟨fd, F⟩ := e.d_require_sizes
  refine ⟨_, fd, F.ok sc_require_sizes len_require_sizes (fun cdv A outer s H vs Q E hr h => ⟨t_require_sizes K E, ?_, rd_require_sizes vs H Q E h⟩), e.g_require_sizes, F.kp, FunD.bindsN F fun _ _ _ _ _ _ us hl => match us, hl with | [_], _ => rfl⟩
  exact U.body fun px1 po1 => (pss_cons (ps_if (pt_not (pt_val (U.pe_g G_is_row (hr.mono (by omega)) rfl px1 (pa_cons (pv 0) pa_nil)))) (pss_one U.ps_never)
    pss_nil)
    (pss_one (ps_for po1 rfl (U.pi_en (by rfl) e.b_enumerate (pa_cons (pv 0) pa_nil)) (pg_tup rfl (pgs_cons (pg_name (i := 1) sc_require_sizes.nd rfl (Or.inl rfl)) (pgs_cons (pg_name (i := 2) sc_require_sizes.nd rfl (Or.inl rfl)) pgs_nil)))
    (pss_cons (ps_if (PW.pt (pw_or (pt_not (pt_val (pe_callB call_isi (by rfl) e.b_isinstance PyProof.Rows.boot_isinstance (pa_cons (pv 2) (pa_cons (pe_bltn rfl e.b_tuple PyProof.Rows.boot_tuple rfl) pa_nil))))) (pw_or1 (pt_cmpR (U.op_neu hr.units) (pe_callB U.call_ln (by rfl) e.b_len PySem.boot_len (pa_cons (pv 2) pa_nil)) pe_int (nomark _))))) (pss_one U.ps_never)
    pss_nil)
    (pss_one (ps_if (PW.pt (pw_or (pt_not (pt_val (U.pe_g G_is_between (hr.mono (by omega)) rfl px1 (pa_cons (pe_ix ix_seq (pv 2) pe_int (fun _ _ => rfl)) (pa_cons pe_int (pa_cons (U.pe_gc rfl e.g_MOST) pa_nil)))))) (pw_or1 (pt_not (pt_val (U.pe_g G_is_between (hr.mono (by omega)) rfl px1 (pa_cons (pe_ix ix_seq (pv 2) pe_int (fun _ _ => rfl)) (pa_cons pe_int (pa_cons (U.pe_gc rfl e.g_MOST) pa_nil))))))))) (pss_one U.ps_never)
    pss_nil))))))
theorem ok_padding (e : Env P w K mg base) : U.GFn P w K mg base 4 "padding" ["sizes", "rate", "delay", "store"] (sp_padding K) := by
  have G_require_number := ok_require_number e
  have G_require_sizes := ok_require_sizes e
  obtain ⟨fd, F⟩ := e.d_padding
  refine ⟨_, fd, F.ok sc_padding len_padding (fun cdv A outer s H vs Q E hr h => ⟨t_padding K E, ?_, rd_padding vs H Q E h⟩), e.g_padding, F.kp, FunD.bindsN F fun _ _ _ _ _ _ us hl => match us, hl with | [_, _, _, _], _ => rfl⟩
  exact U.body fun px1 po1 => (pss_cons (ps_expr (U.pe_g G_require_sizes (hr.mono (by omega)) rfl px1 (pa_cons (pv 0) pa_nil)))
    (pss_cons (ps_for po1 rfl (U.pi_seq (pe_tup (pa_cons (pv 1) (pa_cons (pv 2) (pa_cons (pv 3) pa_nil))))) (pg_name (i := 4) sc_padding.nd rfl (Or.inl rfl))
    (pss_one (ps_expr (U.pe_g G_require_number (hr.mono (by omega)) rfl px1 (pa_cons (pv 4) pa_nil)))))
    (pss_cons (ps_set (i := 5) sc_padding.nd rfl (Or.inl rfl) (pe_lst pa_nil))
    (pss_cons (ps_par3 (i := 6) (j := 7) (l := 8) (by rfl) sc_padding.nd rfl rfl rfl (by decide) (by decide) (by decide) rfl rfl rfl (pa_cons pe_int (pa_cons (pv 2) (pa_cons pe_int pa_nil))) (by rfl))
    (pss_cons (ps_for po1 rfl (U.pi_en (by rfl) e.b_enumerate (pa_cons (pv 0) pa_nil)) (pg_tup rfl (pgs_cons (pg_name (i := 9) sc_padding.nd rfl (Or.inl rfl)) (pgs_cons (pg_tup rfl (pgs_cons (pg_name (i := 12) sc_padding.nd rfl (Or.inl rfl)) (pgs_cons (pg_name (i := 13) sc_padding.nd rfl (Or.inl rfl)) pgs_nil))) pgs_nil)))
    (pss_cons (ps_aug (i := 6) sc_padding.nd rfl (.inl rfl) (pv 12) U.ip_ad)
    (pss_cons (ps_set (i := 10) sc_padding.nd rfl (Or.inl rfl) (pe_op U.op_ad (pv 7) (pe_op U.op_ml (pv 1) (pv 13))))
    (pss_cons (ps_set (i := 11) sc_padding.nd rfl (Or.inl rfl) (pe_ifExp (pt_cmpR op_lt (pe_op U.op_ad (pv 9) pe_int) (pe_callB U.call_ln (by rfl) e.b_len PySem.boot_len (pa_cons (pv 0) pa_nil)) (nomark _)) (pe_callB (call_max2 rfl) (by rfl) e.b_max PyProof.Rows.boot_max (pa_cons pe_int (pa_cons (pe_op op_sub (pe_op op_sub (pv 10) (pv 6)) (pv 3)) pa_nil))) pe_int))
    (pss_cons (ps_aug (i := 6) sc_padding.nd rfl (.inl rfl) (pv 11) U.ip_ad)
    (pss_cons (ps_if (pt_cmpR op_gt (pv 6) (pv 7) (nomark _)) (pss_one (ps_ret (pe_tup (pa_cons (pv 8) (pa_cons (pv 9) pa_nil)))))
    pss_nil)
    (pss_cons (ps_if (pt_cmpR op_gt (pv 11) pe_int (nomark _)) (pss_one (ps_set (i := 8) sc_padding.nd rfl (Or.inl rfl) (pe_op U.op_ad (pv 9) pe_int)))
    pss_nil)
    (pss_cons (ps_expr (pe_bm PySem.F.plainAttrs_list PySem.F.slot_list_append PySem.F.type_list_append mt_append (pv 5) (pa_cons (pv 11) pa_nil)))
    (pss_one (ps_set (i := 7) sc_padding.nd rfl (Or.inl rfl) (pv 10)))))))))))
    (pss_one (ps_ret (pv 5))))))))
theorem ok_law_take (e : Env P w K mg base) : U.GFn P w K mg base 1 "_law_take" ["pool", "many"] (sp_law_take K) := by
  obtain ⟨fd, F⟩ := e.d_law_take
  refine ⟨_, fd, F.ok sc_law_take len_law_take (fun cdv A outer s H vs Q E hr h => ⟨t_law_take K E, ?_, rd_law_take vs H Q E h⟩), e.g_law_take, F.kp, FunD.bindsN F fun _ _ _ _ _ _ us hl => match us, hl with | [_, _], _ => rfl⟩
  exact U.body fun px1 po1 => (pss_cons (ps_if (pt_cmpR op_gt (pe_ix ix_seq (pv 0) pe_int (fun _ _ => rfl)) pe_int (nomark _)) (pss_cons (ps_set (i := 2) sc_law_take.nd rfl (Or.inl rfl) (pe_op op_mod (pe_callTy U.call_in (by rfl) e.b_int PyProof.Rows.boot_int (pa_cons (pe_ix ix_seq (pv 0) pe_int (fun _ _ => rfl)) pa_nil)) (pv 1)))
    (pss_cons (ps_asg (pe_op op_fdivW (pe_callTy U.call_in (by rfl) e.b_int PyProof.Rows.boot_int (pa_cons (pe_ix ix_seq (pv 0) pe_int (fun _ _ => rfl)) pa_nil)) (pv 1)) (pg_sub (pv 0) pe_int set_list))
    (pss_one (ps_ret (pv 2)))))
    pss_nil)
    (pss_cons (ps_asg (pe_op op_mod (pe_callTy U.call_in (by rfl) e.b_int PyProof.Rows.boot_int (pa_cons (pe_op U.op_ad (pe_op U.op_ml (pe_ix ix_seq (pv 0) pe_int (fun _ _ => rfl)) pe_int) pe_int) pa_nil)) pe_int) (pg_sub (pv 0) pe_int set_list))
    (pss_one (ps_ret (pe_op op_mod (pe_op op_fdivW (pe_op op_mod (pe_callTy U.call_in (by rfl) e.b_int PyProof.Rows.boot_int (pa_cons (pe_op U.op_ml (pe_ix ix_seq (pv 0) pe_int (fun _ _ => rfl)) (pe_ix ix_seq (pv 0) pe_int (fun _ _ => rfl))) pa_nil)) pe_int) pe_int) (pv 1))))))
theorem ok_law_same (e : Env P w K mg base) : ∀ n : Nat, U.GFn P w K mg base (n + 1) "_law_same" ["actual", "due"] (sp_law_same K n)
  | 0 => by
    obtain ⟨fd, F⟩ := e.d_law_same
    exact ⟨_, fd, F.ok sc_law_same len_law_same (fun cdv A outer s H vs Q E hr h => h.elim), e.g_law_same, F.kp, FunD.bindsN F fun _ _ _ _ _ _ us hl => match us, hl with | [_, _], _ => rfl⟩
  | n + 1 => by
    have G_law_same := ok_law_same e n
    obtain ⟨fd, F⟩ := e.d_law_same
    refine ⟨_, fd, F.ok sc_law_same len_law_same (fun cdv A outer s H vs Q E hr h => ⟨t_law_same K n E, ?_, rd_law_same vs H Q E h⟩), e.g_law_same, F.kp, FunD.bindsN F fun _ _ _ _ _ _ us hl => match us, hl with | [_, _], _ => rfl⟩
    exact U.body fun px1 po1 => (pss_cons (ps_if (pt_cmp (pc_isN (pv 1))) (pss_one (ps_ret (pe_cmp (pc_isN (pv 0)))))
    pss_nil)
    (pss_cons (ps_if (pt_val (pe_callB call_isi (by rfl) e.b_isinstance PyProof.Rows.boot_isinstance (pa_cons (pv 1) (pa_cons (pe_bltn rfl e.b_bool PyProof.Rows.boot_bool rfl) pa_nil)))) (pss_one (ps_ret (pe_and (pe_callB call_isi (by rfl) e.b_isinstance PyProof.Rows.boot_isinstance (pa_cons (pv 0) (pa_cons (pe_bltn rfl e.b_bool PyProof.Rows.boot_bool rfl) pa_nil))) (pe_one (pe_cmpR (U.op_equ hr.units) (pv 0) (pv 1) (nomark _))))))
    pss_nil)
    (pss_cons (ps_if (pt_val (pe_callB call_isi (by rfl) e.b_isinstance PyProof.Rows.boot_isinstance (pa_cons (pv 1) (pa_cons (pe_bltn rfl e.b_int PyProof.Rows.boot_int rfl) pa_nil)))) (pss_one (ps_ret (pe_and (pe_callB call_isi (by rfl) e.b_isinstance PyProof.Rows.boot_isinstance (pa_cons (pv 0) (pa_cons (pe_bltn rfl e.b_int PyProof.Rows.boot_int rfl) pa_nil))) (pe_and (pe_not (pe_callB call_isi (by rfl) e.b_isinstance PyProof.Rows.boot_isinstance (pa_cons (pv 0) (pa_cons (pe_bltn rfl e.b_bool PyProof.Rows.boot_bool rfl) pa_nil)))) (pe_one (pe_cmpR (U.op_equ hr.units) (pv 0) (pv 1) (nomark _)))))))
    pss_nil)
    (pss_cons (ps_if (pt_val (pe_callB call_isi (by rfl) e.b_isinstance PyProof.Rows.boot_isinstance (pa_cons (pv 1) (pa_cons (pe_bltn rfl e.b_str PyProof.Rows.boot_str rfl) pa_nil)))) (pss_one (ps_ret (pe_and (pe_callB call_isi (by rfl) e.b_isinstance PyProof.Rows.boot_isinstance (pa_cons (pv 0) (pa_cons (pe_bltn rfl e.b_str PyProof.Rows.boot_str rfl) pa_nil))) (pe_one (pe_cmpR (U.op_equ hr.units) (pv 0) (pv 1) (nomark _))))))
    pss_nil)
    (pss_cons (ps_if (PW.pt (pw_and (pt_val (pe_callB call_isi (by rfl) e.b_isinstance PyProof.Rows.boot_isinstance (pa_cons (pv 1) (pa_cons (pe_bltn rfl e.b_list PyProof.Rows.boot_list rfl) pa_nil)))) (pw_and1 (pt_not (pt_val (pe_callB call_isi (by rfl) e.b_isinstance PyProof.Rows.boot_isinstance (pa_cons (pv 0) (pa_cons (pe_bltn rfl e.b_list PyProof.Rows.boot_list rfl) pa_nil)))))))) (pss_one (ps_ret pe_bl))
    pss_nil)
    (pss_cons (ps_if (PW.pt (pw_and (pt_val (pe_callB call_isi (by rfl) e.b_isinstance PyProof.Rows.boot_isinstance (pa_cons (pv 1) (pa_cons (pe_bltn rfl e.b_tuple PyProof.Rows.boot_tuple rfl) pa_nil)))) (pw_and1 (pt_not (pt_val (pe_callB call_isi (by rfl) e.b_isinstance PyProof.Rows.boot_isinstance (pa_cons (pv 0) (pa_cons (pe_bltn rfl e.b_tuple PyProof.Rows.boot_tuple rfl) pa_nil)))))))) (pss_one (ps_ret pe_bl))
    pss_nil)
    (pss_cons (ps_if (pt_cmpR (U.op_neu hr.units) (pe_callB U.call_ln (by rfl) e.b_len PySem.boot_len (pa_cons (pv 0) pa_nil)) (pe_callB U.call_ln (by rfl) e.b_len PySem.boot_len (pa_cons (pv 1) pa_nil)) (nomark _)) (pss_one (ps_ret pe_bl))
    pss_nil)
    (pss_cons (ps_for po1 rfl (RZ.pi_zipA (by rfl) e.b_zip (pa_cons (pv 0) (pa_cons (pv 1) pa_nil))) (pg_tup rfl (pgs_cons (pg_name (i := 2) sc_law_same.nd rfl (Or.inl rfl)) (pgs_cons (pg_name (i := 3) sc_law_same.nd rfl (Or.inl rfl)) pgs_nil)))
    (pss_one (ps_if (pt_not (pt_val (U.pe_g G_law_same (hr.mono (by omega)) rfl px1 (pa_cons (pv 2) (pa_cons (pv 3) pa_nil))))) (pss_one (ps_ret pe_bl))
    pss_nil)))
    (pss_one (ps_ret pe_bl))))))))))
theorem ok_law_late (e : Env P w K mg base) : U.GFn P w K mg base 1 "_law_late" ["sizes", "rate", "delay"] (sp_law_late K) := by
  obtain ⟨fd, F⟩ := e.d_law_late
  refine ⟨_, fd, F.ok sc_law_late len_law_late (fun cdv A outer s H vs Q E hr h => ⟨t_law_late K E, ?_, rd_law_late vs H Q E h⟩), e.g_law_late, F.kp, FunD.bindsN F fun _ _ _ _ _ _ us hl => match us, hl with | [_, _, _], _ => rfl⟩
  exact U.body fun px1 po1 => (pss_cons (ps_par (i := 3) (j := 4) (by rfl) sc_law_late.nd rfl rfl (by decide) rfl rfl (pa_cons pe_int (pa_cons (pv 2) pa_nil)) (by rfl))
    (pss_cons (ps_for po1 rfl (U.pi_en (by rfl) e.b_enumerate (pa_cons (pv 0) pa_nil)) (pg_tup rfl (pgs_cons (pg_name (i := 5) sc_law_late.nd rfl (Or.inl rfl)) (pgs_cons (pg_name (i := 6) sc_law_late.nd rfl (Or.inl rfl)) pgs_nil)))
    (pss_cons (ps_set (i := 3) sc_law_late.nd rfl (Or.inl rfl) (pe_op U.op_ad (pv 3) (pe_ix ix_seq (pv 6) pe_int (fun _ _ => rfl))))
    (pss_cons (ps_if (pt_cmpR op_gt (pv 3) (pv 4) (nomark _)) (pss_one (ps_ret (pv 5)))
    pss_nil)
    (pss_one (ps_set (i := 4) sc_law_late.nd rfl (Or.inl rfl) (pe_op U.op_ad (pv 4) (pe_op U.op_ml (pv 1) (pe_ix ix_seq (pv 6) pe_int (fun _ _ => rfl)))))))))
    (pss_one (ps_ret pe_non))))
theorem ok_least_delay (e : Env P w K mg base) : U.GFn P w K mg base 4 "least_delay" ["sizes", "rate"] (sp_least_delay K) := by
  have G_require_number := ok_require_number e
  have G_require_sizes := ok_require_sizes e
  obtain ⟨fd, F⟩ := e.d_least_delay
  refine ⟨_, fd, F.ok sc_least_delay len_least_delay (fun cdv A outer s H vs Q E hr h => ⟨t_least_delay K E, ?_, rd_least_delay vs H Q E h⟩), e.g_least_delay, F.kp, FunD.bindsN F fun _ _ _ _ _ _ us hl => match us, hl with | [_, _], _ => rfl⟩
  exact U.body fun px1 po1 => (pss_cons (ps_expr (U.pe_g G_require_sizes (hr.mono (by omega)) rfl px1 (pa_cons (pv 0) pa_nil)))
    (pss_cons (ps_expr (U.pe_g G_require_number (hr.mono (by omega)) rfl px1 (pa_cons (pv 1) pa_nil)))
    (pss_cons (ps_asg (pe_tup (pa_cons pe_int (pa_cons pe_int (pa_cons pe_int pa_nil)))) (pg_tup rfl (pgs_cons (pg_name (i := 2) sc_least_delay.nd rfl (Or.inl rfl)) (pgs_cons (pg_name (i := 3) sc_least_delay.nd rfl (Or.inl rfl)) (pgs_cons (pg_name (i := 4) sc_least_delay.nd rfl (Or.inl rfl)) pgs_nil)))))
    (pss_cons (ps_for po1 rfl (U.pi_seq (pv 0)) (pg_tup rfl (pgs_cons (pg_name (i := 5) sc_least_delay.nd rfl (Or.inl rfl)) (pgs_cons (pg_name (i := 6) sc_least_delay.nd rfl (Or.inl rfl)) pgs_nil)))
    (pss_cons (ps_aug (i := 3) sc_least_delay.nd rfl (.inl rfl) (pv 5) U.ip_ad)
    (pss_cons (ps_set (i := 2) sc_least_delay.nd rfl (Or.inl rfl) (pe_callB (call_max2 rfl) (by rfl) e.b_max PyProof.Rows.boot_max (pa_cons (pv 2) (pa_cons (pe_op op_sub (pv 3) (pv 4)) pa_nil))))
    (pss_one (ps_aug (i := 4) sc_least_delay.nd rfl (.inl rfl) (pe_op U.op_ml (pv 1) (pv 6)) U.ip_ad)))))
    (pss_one (ps_ret (pv 2)))))))
theorem ok_law_rows (e : Env P w K mg base) : U.GFn P w K mg base 2 "_law_rows" ["pool", "rate"] (sp_law_rows K) := by
  have G_law_take := ok_law_take e
  obtain ⟨fd, F⟩ := e.d_law_rows
  refine ⟨_, fd, F.ok sc_law_rows len_law_rows (fun cdv A outer s H vs Q E hr h => ⟨t_law_rows K E, ?_, rd_law_rows vs H Q E h⟩), e.g_law_rows, F.kp, FunD.bindsN F fun _ _ _ _ _ _ us hl => match us, hl with | [_, _], _ => rfl⟩
  exact U.body fun px1 po1 => (pss_cons (ps_set (i := 2) sc_law_rows.nd rfl (Or.inl rfl) (pe_lst pa_nil))
    (pss_cons (ps_for po1 rfl (pi_range1 (by rfl) e.b_range (pa_cons (pe_ix ix_seq (pe_lst (pa_cons pe_int (pa_cons pe_int (pa_cons pe_int (pa_cons pe_int (pa_cons pe_int pa_nil)))))) (U.pe_g G_law_take (hr.mono (by omega)) rfl px1 (pa_cons (pv 0) (pa_cons pe_int pa_nil))) (fun _ _ => rfl)) pa_nil)) (pg_name (i := 3) sc_law_rows.nd rfl (Or.inl rfl))
    (pss_cons (ps_set (i := 4) sc_law_rows.nd rfl (Or.inl rfl) (pe_op U.op_ad pe_int (U.pe_g G_law_take (hr.mono (by omega)) rfl px1 (pa_cons (pv 0) (pa_cons pe_int pa_nil)))))
    (pss_cons (ps_set (i := 5) sc_law_rows.nd rfl (Or.inl rfl) (pe_callB (call_max2 rfl) (by rfl) e.b_max PyProof.Rows.boot_max (pa_cons pe_int (pa_cons (pe_op op_sub (pe_op U.op_ad (pe_op U.op_ml (pv 1) (pv 4)) (U.pe_g G_law_take (hr.mono (by omega)) rfl px1 (pa_cons (pv 0) (pa_cons pe_int pa_nil)))) pe_int) pa_nil))))
    (pss_one (ps_expr (pe_bm PySem.F.plainAttrs_list PySem.F.slot_list_append PySem.F.type_list_append mt_append (pv 2) (pa_cons (pe_tup (pa_cons (pe_ix ix_seq (pe_lst (pa_cons (pv 5) (pa_cons (pv 5) (pa_cons (U.pe_g G_law_take (hr.mono (by omega)) rfl px1 (pa_cons (pv 0) (pa_cons (pe_op U.op_ad (pe_op op_pow pe_int pe_int) pe_int) pa_nil))) (pa_cons pe_int pa_nil))))) (U.pe_g G_law_take (hr.mono (by omega)) rfl px1 (pa_cons (pv 0) (pa_cons pe_int pa_nil))) (fun _ _ => rfl)) (pa_cons (pv 4) pa_nil))) pa_nil)))))))
    (pss_one (ps_ret (pv 2)))))
theorem ok_law_pool (e : Env P w K mg base) : U.GFn P w K mg base 1 "_law_pool" ["script", "k"] (sp_law_pool K) := by
  obtain ⟨fd, F⟩ := e.d_law_pool
  refine ⟨_, fd, F.ok sc_law_pool len_law_pool (fun cdv A outer s H vs Q E hr h => ⟨t_law_pool K E, ?_, rd_law_pool vs H Q E h⟩), e.g_law_pool, F.kp, FunD.bindsN F fun _ _ _ _ _ _ us hl => match us, hl with | [_, _], _ => rfl⟩
  exact U.body fun px1 po1 => (pss_cons (ps_set (i := 2) sc_law_pool.nd rfl (Or.inl rfl) pe_int)
    (pss_cons (ps_if (pt_cmpR op_lt (pv 1) (pe_callB U.call_ln (by rfl) e.b_len PySem.boot_len (pa_cons (pv 0) pa_nil)) (nomark _)) (pss_one (ps_set (i := 2) sc_law_pool.nd rfl (Or.inl rfl) (pe_callTy U.call_in (by rfl) e.b_int PyProof.Rows.boot_int (pa_cons (pe_ix ix_seq (pv 0) (pv 1) (fun _ _ => rfl)) pa_nil))))
    pss_nil)
    (pss_cons (ps_set (i := 3) sc_law_pool.nd rfl (Or.inl rfl) (pe_callB call_abs (by rfl) e.b_abs PyProof.Rows.boot_abs (pa_cons (pv 2) pa_nil)))
    (pss_cons (ps_set (i := 4) sc_law_pool.nd rfl (Or.inl rfl) (pe_op U.op_ad (pe_op U.op_ad (pe_op op_mod (pe_callTy U.call_in (by rfl) e.b_int PyProof.Rows.boot_int (pa_cons (pv 2) pa_nil)) pe_int) (pe_op U.op_ml pe_int (pv 1))) pe_int))
    (pss_one (ps_ret (pe_lst (pa_cons (pe_op U.op_ml (pv 3) (pe_callTy U.call_in (by rfl) e.b_int PyProof.Rows.boot_int (pa_cons (pe_cmpR op_ge (pv 3) (pe_op op_pow pe_int pe_int) (nomark _)) pa_nil))) (pa_cons (pe_op op_mod (pe_callTy U.call_in (by rfl) e.b_int PyProof.Rows.boot_int (pa_cons (pe_op U.op_ad (pe_op U.op_ml (pe_op U.op_ml (pv 4) (pv 4)) (pv 4)) (pe_op U.op_ml pe_int (pv 1))) pa_nil)) pe_int) pa_nil)))))))))
theorem okF_law (e : Env P w K mg base) {fd : FuncData} (F : FunD K "law" "law" (defArgs s_law) (defBody s_law) (defScope s_law) [] [] (He.ga K "law") fd) : FnOk P w K mg base (L2.CX P w) 5 (He.ga K "law") fd ["script"] (sp_law K) := by
  have G_law_exceeds := ok_law_exceeds e
  have G_law_late := ok_law_late e
  have G_law_pool := ok_law_pool e
  have G_law_rows := ok_law_rows e
  have G_law_same := ok_law_same e 3
  have G_law_take := ok_law_take e
  have G_least_delay := ok_least_delay e
  have G_padding := ok_padding e
  refine F.ok sc_law len_law (fun cdv A outer s H vs Q E hr h => ⟨t_law K E, ?_, rd_law vs H Q E h⟩)
  exact U.body fun px1 po1 => (pss_cons (ps_for po1 rfl (pi_range1 (by rfl) e.b_range (pa_cons (pe_callB (call_max2 rfl) (by rfl) e.b_max PyProof.Rows.boot_max (pa_cons pe_int (pa_cons (pe_callB (call_min2 rfl) (by rfl) e.b_min PyProof.Rows.boot_min (pa_cons (pe_callB U.call_ln (by rfl) e.b_len PySem.boot_len (pa_cons (pv 0) pa_nil)) (pa_cons pe_int pa_nil))) pa_nil))) pa_nil)) (pg_name (i := 1) sc_law.nd rfl (Or.inl rfl))
    (pss_cons (ps_set (i := 2) sc_law.nd rfl (Or.inl rfl) (U.pe_g G_law_pool (hr.mono (by omega)) rfl px1 (pa_cons (pv 0) (pa_cons (pv 1) pa_nil))))
    (pss_cons (ps_set (i := 3) sc_law.nd rfl (Or.inl rfl) (U.pe_g G_law_take (hr.mono (by omega)) rfl px1 (pa_cons (pv 2) (pa_cons pe_int pa_nil))))
    (pss_cons (ps_set (i := 4) sc_law.nd rfl (Or.inl rfl) (U.pe_g G_law_rows (hr.mono (by omega)) rfl px1 (pa_cons (pv 2) (pa_cons (pv 3) pa_nil))))
    (pss_cons (ps_set (i := 5) sc_law.nd rfl (Or.inl rfl) (U.pe_g G_least_delay (hr.mono (by omega)) rfl px1 (pa_cons (pv 4) (pa_cons (pv 3) pa_nil))))
    (pss_cons (ps_if (PW.pt (pw_or (pt_not (pt_val (pe_callB call_isi (by rfl) e.b_isinstance PyProof.Rows.boot_isinstance (pa_cons (pv 5) (pa_cons (pe_bltn rfl e.b_int PyProof.Rows.boot_int rfl) pa_nil))))) (pw_or (pt_cmpR op_lt (pv 5) pe_int (nomark _)) (pw_or1 (pt_cmpR op_gt (pv 5) (pe_op op_pow pe_int pe_int) (nomark _)))))) (pss_one (ps_ret pe_bl))
    pss_nil)
    (pss_cons (ps_if (pt_not (pt_val (U.pe_g G_law_same (hr.mono (by omega)) rfl px1 (pa_cons (U.pe_g G_padding (hr.mono (by omega)) rfl px1 (pa_cons (pv 4) (pa_cons (pv 3) (pa_cons (pv 5) (pa_cons (pe_op op_pow pe_int pe_int) pa_nil))))) (pa_cons (pe_lc (own := [("item", 10)]) rfl sc_law.nd (U.pi_seq (pv 4)) (blkOk_by (own := [("item", 10)]) (N := ["script", "k", "pool", "speed", "rows", "least", "pair", "due", "wait", "hold", "item"]) (sc := defScope s_law) (by decide +kernel)) (fun _ _ _ _ _ => (pg_name (i := 10) sc_law.nd rfl (Or.inl rfl))) (fun _ _ _ _ _ => pts_nil) (fun _ _ _ _ _ => pe_int)) pa_nil))))) (pss_one (ps_ret pe_bl))
    pss_nil)
    (pss_cons (ps_if (pt_cmpR op_gt (pv 5) pe_int (nomark _)) (pss_cons (ps_set (i := 7) sc_law.nd rfl (Or.inl rfl) (pe_tup (pa_cons pe_int (pa_cons (U.pe_g G_law_late (hr.mono (by omega)) rfl px1 (pa_cons (pv 4) (pa_cons (pv 3) (pa_cons (pe_op op_sub (pv 5) pe_int) pa_nil)))) pa_nil))))
    (pss_one (ps_if (pt_not (pt_val (U.pe_g G_law_same (hr.mono (by omega)) rfl px1 (pa_cons (U.pe_g G_padding (hr.mono (by omega)) rfl px1 (pa_cons (pv 4) (pa_cons (pv 3) (pa_cons (pe_op op_sub (pv 5) pe_int) (pa_cons (pe_op op_pow pe_int pe_int) pa_nil))))) (pa_cons (pv 7) pa_nil))))) (pss_one (ps_ret pe_bl))
    pss_nil)))
    pss_nil)
    (pss_cons (ps_par (i := 8) (j := 9) (by rfl) sc_law.nd rfl rfl (by decide) rfl rfl (pa_cons (U.pe_g G_law_take (hr.mono (by omega)) rfl px1 (pa_cons (pv 2) (pa_cons pe_int pa_nil))) (pa_cons (U.pe_g G_law_take (hr.mono (by omega)) rfl px1 (pa_cons (pv 2) (pa_cons pe_int pa_nil))) pa_nil)) (by rfl))
    (pss_cons (ps_set (i := 6) sc_law.nd rfl (Or.inl rfl) (U.pe_g G_padding (hr.mono (by omega)) rfl px1 (pa_cons (pv 4) (pa_cons (pv 3) (pa_cons (pv 8) (pa_cons (pv 9) pa_nil))))))
    (pss_one (ps_if (pt_val (pe_callB call_isi (by rfl) e.b_isinstance PyProof.Rows.boot_isinstance (pa_cons (pv 6) (pa_cons (pe_bltn rfl e.b_tuple PyProof.Rows.boot_tuple rfl) pa_nil)))) (pss_cons (ps_if (PW.pt (pw_or (pt_cmpR (U.op_neu hr.units) (pe_callB U.call_ln (by rfl) e.b_len PySem.boot_len (pa_cons (pv 6) pa_nil)) pe_int (nomark _)) (pw_or1 (pt_not (U.pt_chain3 op_le op_le op_lt pe_int (pe_ix ix_seq (pv 6) pe_int (fun _ _ => rfl)) (pe_ix ix_seq (pv 6) pe_int (fun _ _ => rfl)) (pe_callB U.call_ln (by rfl) e.b_len PySem.boot_len (pa_cons (pv 4) pa_nil))))))) (pss_one (ps_ret pe_bl))
    pss_nil)
    (pss_one (ps_if (pt_not (pt_val (U.pe_g G_law_exceeds (hr.mono (by omega)) rfl px1 (pa_cons (pv 4) (pa_cons (pv 3) (pa_cons (pv 8) (pa_cons (pv 9) (pa_cons (pv 6) pa_nil)))))))) (pss_one (ps_ret pe_bl))
    pss_nil)))
    pss_nil))))))))))))
    (pss_one (ps_ret pe_bl)))
theorem facts {P : Program} {w : World} {K : PySem.W.Frag} {h : Heap} {mg : Str → Option Value} {f : Addr} (X : K.In h) (G : h.Ns mainGlobals mg) (hfa : mg ("law" : Str) = some (.ref f)) (c : He.SaysD fa fn K) :
    ∃ fd : FuncData, (∀ (s : Shared) (v : Value), BindsTo s fd ⟨[v], []⟩ [("script", v)]) ∧ ∀ base : Heap, K.In base → base.Ns mainGlobals mg → FnOk P w K mg base (L2.CX P w) 5 f fd ["script"] (sp_law K) := by
  have e0 : Env P w K mg h := ⟨⟨h, X, G⟩, c⟩
  obtain ⟨fd, F⟩ := e0.d_law
  have e := hfa.symm.trans e0.g_law
  cases e
  have b := FunD.bindsA (ps := ["script"]) F fun _ _ _ _ _ _ us hl => match us, hl with | [_], _ => rfl
  refine ⟨fd, fun s v => b s [v] rfl, fun base _ _ => ?_⟩
  have e1 : Env P w K mg base := ⟨⟨h, X, G⟩, c⟩
  exact okF_law e1 F
end
end Pf
open PySem PySem.W PySem.Calls PyProof.Rows
theorem PySem.Challenge.cw_framejoins_k80_whole_delay_and_padding_holds : PySem.Challenge.rw_framejoins_k80_whole_delay_and_padding.Holds := by
  w_on; o_law
  refine HandSHeadRun.head_any (r := OpenLaw.row PySem.Challenge.rw_framejoins_k80_whole_delay_and_padding) (q := view (OpenLaw.row PySem.Challenge.rw_framejoins_k80_whole_delay_and_padding).prog [21]) (H := Pf.hk) (ob := Pf.ob) (M := 4000) (loose := ["JoinError", "InvalidNumber", "InvalidPlan", "is_integer", "is_between", "is_row", "MOST", "require_number", "require_sizes", "least_delay", "padding", "_law_pool", "_law_take", "_law_same", "_law_rows", "_law_late", "_law_exceeds"]) (d := HandSHeadRun.topDef (OpenLaw.row PySem.Challenge.rw_framejoins_k80_whole_delay_and_padding).prog 21) (kwd := []) Pf.ob_eq
    (by kernel_rfl) (fun s => by kernel_rfl) Pf.run (by kernel_rfl) (by kernel_rfl) (by kernel_rfl) (by rfl) (by first | assumption | decide +kernel) (by decide +kernel) ⟨rfl, rfl, rfl, rfl, rfl, by decide +kernel⟩ ?hw ?hc
  case hw => w_witness2
  case hc =>
    refine U.walk_ofW (l := PySem.Challenge.rw_framejoins_k80_whole_delay_and_padding) (n := 63) (k := 5) (x := "script") (CX := fun w => L2.CX PySem.Challenge.rw_framejoins_k80_whole_delay_and_padding.prog w) rfl (by decide) (by kernel_rfl) ⟨rfl, by decide, by decide⟩ ?F (fun _ => U.cx_no)
    intro w mg fa h Y G hmg0
    obtain ⟨K, KX, c⟩ := Y
    have hmg : mg ("law" : PySem.Str) = some (.ref fa) := by
      have e : (HandSHeadRun.topDef (OpenLaw.row PySem.Challenge.rw_framejoins_k80_whole_delay_and_padding).prog 21).name = ("law" : PySem.Str) := by kernel_rfl
      rw [← e]
      exact hmg0
    obtain ⟨fd, hb, hF⟩ := Pf.facts (P := (PySem.Challenge.rw_framejoins_k80_whole_delay_and_padding).prog) (w := w) KX G hmg c
    exact ⟨K, fd, Pf.sp_law K, KX, hb, fun H a ns hl _ hS => Pf.law_end hS hl, hF⟩
