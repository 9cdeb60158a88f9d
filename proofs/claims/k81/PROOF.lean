import PyProof.Rows.All
import Wide.All
import OpenK.AllK
import Wide.FinOn
import HandS.Base
import HandS.Call
import HandS.List
import HandS.Comp
import HandS.Iter
import HandS.Dict
import HandS.Text
import HandS.Defaults
import KE.GoesEnum
import HandS.Exc
import HandS.IsInst
import HandS.Wide
import HandS.TupAny
import HandS.Conv
import HandS.Walk
import HandS.Style
import HandS.Words
import HandS.Zip
import KE.KStateDown
import HandS.Ends
import HandS.More
import HandS.WordsExc
import HandS.Head0
import HandS.Head1
import HandS.Head2
import HandS.HeadEnd
import HandS.HeadHook1
import HandS.HeadHook2
import HandS.TryOnly
import KE.KExcInit
import HandS.TryMany
import HandS.ExcInit
import HandS.ExcField
import HandS.ExcIs
import HandS.HeadHook4
import KE.KExcIs
import HandS.Lambda
import HandS.EndTab
import HandS.HeadWalk
import PySem.Challenge.RW_framejoins_k81_budgets_refused
set_option Elab.async false
set_option linter.all false
set_option maxRecDepth 100000
set_option maxHeartbeats 4000000
namespace R
open PySem L2
section
variable {σ : L2.St} {H : Hp} {Q : VK} {v x y : V} {ta tb tc te : TE} {r r' : R2} {i : Nat} {D : Ends} {t u : TS} {a b : Int} {K : PySem.W.Frag} {p : Addr} {xs ys : List V}
/-! expressions -/
theorem var (h : σ[i]? = some (some v)) (q : Q v H) : tVar i σ H Q := ⟨v, h, q⟩
theorem c (q : Q v H) : tC v σ H Q := q
theorem op (h : ta σ H fun x H1 => tb σ H1 fun y H2 => r x y H2 Q) : tOp r ta tb σ H Q := h
theorem un {r : V → Hp → VK → Prop} (h : ta σ H fun x H1 => r x H1 Q) : tUn r ta σ H Q := h
theorem i0 {g : Int → Int → V} (q : Q (g a b) H) : rI0 g (.int a) (.int b) H Q := ⟨a, b, rfl, rfl, q⟩
theorem iC {C : Int → Int → Prop} {g : Int → Int → V} (c : C a b) (q : Q (g a b) H) : rI C g (.int a) (.int b) H Q := ⟨a, b, rfl, rfl, c, q⟩
theorem iU {g : Int → V} (q : Q (g a) H) : rU g (.int a) H Q := ⟨a, rfl, q⟩
theorem eqI (q : Q (.bl (decide (a = b))) H) : rEq (.int a) (.int b) H Q := ⟨rfl, by
  have e : decide (V.int a = V.int b) = decide (a = b) := by simp
  rw [e]; exact q⟩
theorem neI (q : Q (.bl (!decide (a = b))) H) : rNe (.int a) (.int b) H Q := ⟨rfl, by
  have e : decide (V.int a = V.int b) = decide (a = b) := by simp
  rw [e]; exact q⟩
theorem eqS {s z : Str} (q : Q (.bl (decide (s = z))) H) : rEq (.str s) (.str z) H Q := ⟨rfl, by
  have e : decide (V.str s = V.str z) = decide (s = z) := by simp
  rw [e]; exact q⟩
theorem neS {s z : Str} (q : Q (.bl (!decide (s = z))) H) : rNe (.str s) (.str z) H Q := ⟨rfl, by
  have e : decide (V.str s = V.str z) = decide (s = z) := by simp
  rw [e]; exact q⟩
theorem eqG (s : scal x y = true) (q : Q (.bl (decide (x = y))) H) : rEq x y H Q := ⟨s, q⟩
theorem neG (s : scal x y = true) (q : Q (.bl (!decide (x = y))) H) : rNe x y H Q := ⟨s, q⟩
theorem tup {t : TA} (h : t σ H fun xs H1 => xs.length ≤ sizeLine ∧ ∀ p, H1 p = none → Q (.ref p) (upd H1 p (.tup xs))) : tTup t σ H Q := h
theorem lst {t : TA} (h : t σ H fun xs H1 => xs.length ≤ sizeLine ∧ ∀ p, H1 p = none → Q (.ref p) (upd H1 p (.lst xs))) : tLst t σ H Q := h
theorem nil {Q : List V → Hp → Prop} (q : Q [] H) : tNil σ H Q := q
theorem cons {Q : List V → Hp → Prop} {tr : TA} (h : ta σ H fun x H1 => tr σ H1 fun xs H2 => Q (x :: xs) H2) : tCons ta tr σ H Q := h
theorem cb {r : List V → Hp → VK → Prop} {t : TA} (h : t σ H fun vs H1 => r vs H1 Q) : tCB r t σ H Q := h
theorem call {sp : Sp} {dvs : List V} {E : XK} {t : TA} (h : t σ H fun vs H1 => sp (vs ++ dvs) H1 Q E) : tCall sp dvs E t σ H Q := h
theorem chain (h : ta σ H fun x H1 => tb σ H1 fun y H2 => r x y H2 fun z H3 => ∃ k, z = .bl k ∧ (if k = true then tc σ H3 fun w' H4 => r' y w' H4 Q else Q (.bl false) H3)) : tChain r r' ta tb tc σ H Q := h
theorem andV (h : ta σ H fun x H1 => ∃ c, x = .bl c ∧ if c = true then tb σ H1 Q else Q (.bl false) H1) : tAndV ta tb σ H Q := h
theorem orV (h : ta σ H fun x H1 => ∃ c, x = .bl c ∧ if c = true then Q (.bl true) H1 else tb σ H1 Q) : tOrV ta tb σ H Q := h
theorem notV (h : ta σ H fun x H1 => ∃ c, x = .bl c ∧ Q (.bl (!c)) H1) : tNotV ta σ H Q := h
theorem ifE {t : TT} (h : t σ H fun c H1 => if c = true then ta σ H1 Q else tb σ H1 Q) : tIf t ta tb σ H Q := h
theorem isN (h : ta σ H fun x H1 => Q (.bl (decide (x = .non))) H1) : tIsN ta σ H Q := h
theorem notN (h : ta σ H fun x H1 => Q (.bl (!decide (x = .non))) H1) : tNotN ta σ H Q := h
theorem sl {r : V → Option Int → Option Int → Hp → VK → Prop} {tl th : TO} (h : te σ H fun x H1 => tl σ H1 fun l H2 => th σ H2 fun u H3 => r x l u H3 Q) : tSl r te tl th σ H Q := h
theorem noPart {Q : Option Int → Hp → Prop} (q : Q none H) : tNoPart σ H Q := q
theorem part {Q : Option Int → Hp → Prop} (h : ta σ H fun x H1 => ∃ i, x = .int i ∧ Q (some i) H1) : tPart ta σ H Q := h
theorem ixL (h : SqL K H p xs) (e : atI xs a = some v) (q : Q v H) : rIxL K (.ref p) (.int a) H Q := ⟨p, xs, a, v, rfl, rfl, h, e, q⟩
theorem ixT (h : SqT K H p xs) (e : atI xs a = some v) (q : Q v H) : rIxT K (.ref p) (.int a) H Q := ⟨p, xs, a, v, rfl, rfl, h, e, q⟩
/-! bools at an end -/
theorem exB {P : Bool → Prop} {b : Bool} (q : P b) : ∃ k, V.bl b = .bl k ∧ P k := ⟨b, rfl, q⟩
theorem exI {P : Int → Prop} (q : P a) : ∃ k, V.int a = .int k ∧ P k := ⟨a, rfl, q⟩
theorem ifd {c A B : Prop} [Decidable c] (h1 : c → A) (h2 : ¬ c → B) : if decide c = true then A else B := by
  by_cases h : c
  · rw [if_pos (decide_eq_true h)]; exact h1 h
  · rw [if_neg (by simpa using h)]; exact h2 h
theorem ifnd {c A B : Prop} [Decidable c] (h1 : ¬ c → A) (h2 : c → B) : if (!decide c) = true then A else B := by
  by_cases h : c
  · rw [if_neg (by simpa using h)]; exact h2 h
  · rw [if_pos (by simpa using h)]; exact h1 h
/-! tests -/
theorem testT {t : TE} {Q : Bool → Hp → Prop} (h : t σ H fun x H' => ∃ k, x = .bl k ∧ Q k H') : tTest t σ H Q := h
theorem testB {t : TE} {Q : Bool → Hp → Prop} (h : t σ H fun x H' => ∃ k, x = .bl k ∧ Q k H') : tB t σ H Q := h
theorem notT {t : TT} {Q : Bool → Hp → Prop} (h : t σ H fun c H1 => Q (!c) H1) : tNot t σ H Q := h
theorem andT {t u : TT} {Q : Bool → Hp → Prop} (h : t σ H fun c H1 => if c = true then u σ H1 Q else Q false H1) : tAnd t u σ H Q := h
theorem orT {t u : TT} {Q : Bool → Hp → Prop} (h : t σ H fun c H1 => if c = true then Q true H1 else u σ H1 Q) : tOr t u σ H Q := h
/-! statements -/
theorem seq (h : t { D with nx := u D } σ H) : tSeq t u D σ H := h
theorem next (q : D.nx σ H) : tNext D σ H := q
theorem ret (h : te σ H D.rt) : tRet te D σ H := h
theorem retN (h : D.rt .non H) : tRetN D σ H := h
theorem drop (h : te σ H fun _ H1 => D.nx σ H1) : tDrop te D σ H := h
theorem brk (q : D.bk σ H) : tBreak D σ H := q
theorem cont (q : D.ct σ H) : tCont D σ H := q
theorem asg {g : TG} (h : te σ H fun x H1 => g x σ H1 D.nx) : tAsg te g D σ H := h
theorem gname {Q : L2.St → Hp → Prop} (q : Q (σ.set i (some v)) H) : gName i v σ H Q := q
theorem ifS {c : TT} (h : c σ H fun b H1 => if b = true then t D σ H1 else u D σ H1) : tIfS c t u D σ H := h
theorem aug {ti : TIp} (h : σ[i]? = some (some x)) (q : te σ H fun y H1 => ti x y H1 fun z H2 => D.nx (σ.set i (some z)) H2) : tAug i te ti D σ H := ⟨x, h, q⟩
theorem ipi {f : Int → Int → Int} (q : Q (.int (f a b)) H) : ipI f (.int a) (.int b) H Q := ⟨a, b, rfl, rfl, q⟩
theorem par {i j : Nat} {ta : TA} (h : ta σ H fun vs H1 => ∃ v w, vs = [v, w] ∧ D.nx ((σ.set i (some v)).set j (some w)) H1) : tPar i j ta D σ H := h
theorem exVs2 {P : V → V → Prop} (q : P x y) : ∃ v w, ([x, y] : List V) = [v, w] ∧ P v w := ⟨x, y, rfl, q⟩
theorem gtup {n : Nat} {g : TGs} {Q : L2.St → Hp → Prop} (h : SqT K H p xs) (l : xs.length = n) (q : g xs σ H Q) : gTup K n g (.ref p) σ H Q := ⟨p, xs, rfl, h, l, q⟩
theorem gnil {Q : L2.St → Hp → Prop} (q : Q σ H) : gNil [] σ H Q := ⟨rfl, q⟩
theorem gcons {g : TG} {gs : TGs} {vs : List V} {Q : L2.St → Hp → Prop} (h : g v σ H fun σ' H' => gs vs σ' H' Q) : gCons g gs (v :: vs) σ H Q := ⟨v, vs, rfl, h⟩
theorem gsub {to ti : TE} {t : TSet} {Q : L2.St → Hp → Prop} (h : to σ H fun o H1 => ti σ H1 fun i H2 => t o i v H2 fun H3 => Q σ H3) : gSub to ti t v σ H Q := h
theorem setL {j : Nat} {Q : Hp → Prop} (h : H p = some (.lst xs)) (e : ixN xs.length a = some j) (q : Q (upd H p (.lst (xs.set j v)))) : rSetL (.ref p) (.int a) v H Q := ⟨p, xs, a, j, rfl, rfl, h, e, q⟩
theorem bm {T : String} {r : V → List V → Hp → VK → Prop} {t : TA} (h : te σ H fun x H1 => tyV K T x H1 ∧ t σ H1 fun xs H2 => r x xs H2 Q) : tBM K T r te t σ H Q := h
theorem tyL (h : SqL K H p xs) : tyV K "list" (.ref p) H := .inl ⟨rfl, _, h⟩
theorem append (h : H p = some (.lst xs)) (l : xs.length < sizeLine) (q : Q .non (upd H p (.lst (xs ++ [v])))) : rAppend (.ref p) [v] H Q := ⟨p, xs, v, rfl, rfl, h, l, q⟩
theorem extend {p' : Addr} (h : H p = some (.lst xs)) (h' : H p' = some (.lst ys)) (l : xs.length + ys.length ≤ sizeLine) (q : Q .non (upd H p (.lst (xs ++ ys)))) : rExtend (.ref p) [.ref p'] H Q := ⟨p, p', xs, ys, rfl, rfl, h, h', l, q⟩
theorem pack {A : Prop} {B : Addr → Prop} (a : A) (h : ∀ p, B p) : A ∧ ∀ p, B p := ⟨a, h⟩
/-! heaps -/
theorem updOld {q a : Addr} {o z : HO} (nq : H q = none) (h : H a = some z) : upd H q o a = some z := by rw [upd_ne (ne_of_none h nq)]; exact h
theorem updNe {q a : Addr} {o z : HO} (n : a ≠ q) (h : H a = some z) : upd H q o a = some z := by rw [upd_ne n]; exact h
end
end R

/-! unions of rules: one derivation whatever the kinds are -/
namespace PySem
open AutoSeq1 (wpAny_loadPart')
theorem enumT_new (l : Addr) (items : Array Value) (dct : Option Addr) (n : Nat) (sl : Array (Option Value)) :
    Meets (Builtin.«enumerate.__new__» ⟨[.type "enumerate", .ref l], []⟩) (fun _ R s => s.heap.get? l = some { cls := .type "tuple", dict := dct, data := .seq items n, slots := sl } ∧
      R (.ok (.ret (.ref (s.heap.push { cls := .type "tuple_iterator", data := .fields #[.ref l, .int 0 0] }).objs.size)))
        { s with heap := (s.heap.push { cls := .type "tuple_iterator", data := .fields #[.ref l, .int 0 0] }).push { cls := .type "enumerate", data := .fields #[.none, .bool false, .ref s.heap.objs.size, rawInt 0, .none, .none] } }) :=
  .of_wp fun prog w A R s h => by
    obtain ⟨hp, g, d, tk, os⟩ := s; obtain ⟨hl, h⟩ := h
    have hsub := sub_enumerate
    have hL : Heap.IsTuple (Shared.heap ⟨hp, g, d, tk, os⟩) l items := ⟨_, hl, rfl, n, rfl⟩
    wp_walk using wpAny_loadPart' hl
    refine wpAny_stack_any fun st => wpAny_pure ?_
    split
    · rename_i c _ _ _ _ _
      cases (c == Value.type "enumerate")
      all_goals
        wp_walk using wpAny_loadPart' hl, wpAny_pyIter_tuple hL
        exact ⟨_, rfl, h⟩
    · wp_walk using wpAny_loadPart' hl, wpAny_pyIter_tuple hL
      exact ⟨_, rfl, h⟩
section
variable {prog : Program} {w : World} {A : Around} {E : Value → Shared → Prop} {s : Shared}
theorem call_enumT {l : Addr} {items : Array Value} {Q : Value → Shared → Prop} (hL : s.heap.IsTuple l items)
    (h : ∀ h', IsEnum h' (s.heap.objs.size + 1) s.heap.objs.size 0 .none → h'.IsTupleIter s.heap.objs.size l 0 → (∀ b o, s.heap.get? b = some o → h'.get? b = some o) → Q (.ref (s.heap.objs.size + 1)) { s with heap := h' }) :
    wpAny (model prog w) A (call (.type "enumerate") [.ref l]) Q E s := by
  obtain ⟨⟨c, dct, dt, sl⟩, hl, hc, n, hd⟩ := hL
  replace hc : c = .type "tuple" := hc
  replace hd : dt = .seq items n := hd
  subst hc hd
  refine callType_new F.called_enumerate (by decide) (F.typeCall_enumerate_1 _) (F.newCall_enumerate_1 _) (fun obj => F.args_object_init_2 obj _) F.entry_enumerate_new (enumT_new l items dct n sl) ⟨hl, ?_⟩
  have hz : (s.heap.push { cls := .type "tuple_iterator", data := .fields #[.ref l, .int 0 0] }).objs.size = s.heap.objs.size + 1 := Heap.size_push ..
  show _ ∧ _
  rw [hz]
  have he : IsEnum ((s.heap.push { cls := .type "tuple_iterator", data := .fields #[.ref l, .int 0 0] }).push { cls := .type "enumerate", data := .fields #[.none, .bool false, .ref s.heap.objs.size, rawInt 0, .none, .none] }) (s.heap.objs.size + 1) s.heap.objs.size 0 .none := by
    have := Heap.get?_push_size (s.heap.push { cls := .type "tuple_iterator", data := .fields #[.ref l, .int 0 0] }) (o := { cls := .type "enumerate", data := .fields #[.none, .bool false, .ref s.heap.objs.size, rawInt 0, .none, .none] }) rfl
    rw [hz] at this; exact this
  exact ⟨⟨_, he, rfl⟩, h _ he ⟨_, Heap.get?_push_of_some _ (Heap.get?_push_size _ rfl), rfl, rfl⟩ fun b o x => Heap.get?_push_of_some _ (Heap.get?_push_of_some _ x)⟩
end
end PySem

namespace U
open PySem PySem.Spec PyProof.Rows L2
/-! ### enumerate over a tuple -/
def ItT (K : PySem.W.Frag) (a : Addr) : It :=
  ⟨fun i H => ∃ (xs : List V) (x : V), SqT K H a xs ∧ xs[i]? = some x,
   fun i H v H' => ∃ T x, v = .ref T ∧ H T = none ∧ H' = upd H T (.tup [.int (i : Nat), x]) ∧ ∀ xs, SqT K H a xs → xs[i]? = some x,
   fun i H => ∃ xs : List V, SqT K H a xs ∧ xs.length ≤ i⟩
theorem turnT {P : Program} {w : World} {K : PySem.W.Frag} {elts : List Expr} {kk : Nat} {tpos : Pos} (a e it : Addr) :
    Turn P w K (.Tuple elts kk tpos) (ItT K a) [e, it] e (fun i h => (∃ old, IsEnum h e it ((i : Nat) : Int) old) ∧ h.IsTupleIter it a i ∧ e ≠ it) where
  mem := by simp
  obj := fun i h st b hb => by
    obtain ⟨⟨old, he⟩, ⟨o, ho, hc, hd⟩, _⟩ := st
    have e' : b = e ∨ b = it := by simpa using hb
    rcases e' with z | z
    · rw [z]; exact ⟨_, he, fun v q => nomatch q⟩
    · rw [z]; exact ⟨o, ho, fun v q => by rw [hd] at q; cases q⟩
  keep := fun i h h' st k => by
    obtain ⟨⟨old, he⟩, hi, hne⟩ := st
    exact ⟨⟨old, k e (by simp) _ he⟩, hi.at fun o q => k it (by simp) o q, hne⟩
  item := by
    intro X hP hw hK hc i pins s σ H E I hf st hg
    subst hP hw hK
    obtain ⟨⟨old, he⟩, hit, hne⟩ := st
    obtain ⟨xs, x, hq, hx⟩ := hg
    obtain ⟨its, rv, p, hz⟩ := I.tuple hq
    obtain ⟨u, hu, ru⟩ := rv.get hx
    have hel : e < s.heap.objs.size := Heap.lt_size he
    have hil : it < s.heap.objs.size := by obtain ⟨_, q, _⟩ := hit; exact Heap.lt_size q
    have ha : a ≠ it := by
      rintro rfl
      obtain ⟨o1, h1, _, h2⟩ := hit
      obtain ⟨o2, h3, _, _, h4⟩ := p
      rw [h1] at h3; cases h3; rw [h2] at h4; cases h4
    have hae : e ∉ [it, a] := by
      intro z
      rcases List.mem_cons.mp z with z | z
      · exact hne z
      · have z := List.mem_singleton.mp z
        subst z
        obtain ⟨o2, h3, _, _, h4⟩ := p
        rw [he] at h3; cases h3; cases h4
    have hlt : i < its.toArray.size := by
      have := (List.getElem?_eq_some_iff.mp hu).1
      simpa using this
    refine wpAny_pyNext_enum_itemD (Draws.tuple (A := X.A.in1) (I.ok.hd hc) it a ha its.toArray) he ⟨hit, p⟩ hlt hne hae fun x' h' tk hx' ho hit' hT hsz hk => ?_
    have ex : x' = u := by
      have z : its.toArray[i]? = some x' := hx'
      rw [List.getElem?_toArray] at z
      rw [hu] at z
      exact (Option.some.inj z).symm
    subst ex
    refine ⟨_, rfl, wpAny_letOwnedTupleGo_enum (s := { s with heap := h', toks := tk + 1 }) ho fun h'' he' sb => ?_⟩
    have hT2 : h''.get? s.heap.objs.size = some { cls := .type "tuple", data := .seq #[.int i tk, x'] } := (sb.2 _ (Nat.ne_of_gt hel)).trans hT
    have new : ObjOk X.prog X.w (upd H s.heap.objs.size (.tup [.int (i : Nat), x])) h'' s.heap.objs.size (.tup [.int (i : Nat), x]) :=
      ⟨by show 2 ≤ sizeLine; decide, [.int i tk, x'], .cons ⟨_, rfl⟩ (.cons ru .nil), ⟨_, hT2, rfl, _, rfl⟩⟩
    have I1 : Inv X pins σ (upd H s.heap.objs.size (.tup [.int (i : Nat), x])) { s with heap := h'', toks := tk + 1 } :=
      I.turnedNew (ch := [e, it]) (fun b ob hb q => (sb.2 b (fun z => hb (by simp [z]))).trans (hk b ob (fun z => hb (by simp [z])) (fun z => hb (by simp [z])) q)) hf (Nat.le_refl _) new
    refine ⟨.ref s.heap.objs.size, _, I1, rfl, ⟨_, x, rfl, I.hok.fresh (Nat.le_refl _), rfl, fun ys hy => by rw [I.tuple_inj hy hq]; exact hx⟩, ⟨⟨x', ?_⟩, hit'.1.at fun o q => (sb.2 it (Ne.symm hne)).trans q, hne⟩, fun b hb => ?_⟩
    · have e1 : ((i + 1 : Nat) : Int) = (i : Int) + 1 := by omega
      rw [e1]; exact he'
    · have hb' : b < s.heap.objs.size := by
        have e' : b = e ∨ b = it := by simpa using hb
        rcases e' with z | z
        · rw [z]; exact hel
        · rw [z]; exact hil
      rw [upd_ne (Nat.ne_of_lt hb')]
      exact (hf b hb).1
  done := by
    intro X hP hw hK hc i pins s σ H E I hf st hg
    subst hP hw hK
    obtain ⟨⟨old, he⟩, hit, hne⟩ := st
    obtain ⟨xs, hq, hx⟩ := hg
    obtain ⟨its, rv, p, hz⟩ := I.tuple hq
    obtain ⟨f0, f1, f2, f3, f4, f5⟩ := hf it (by simp)
    have hl := rv.length
    have ha : a ≠ it := by
      rintro rfl
      obtain ⟨o1, h1, _, h2⟩ := hit
      obtain ⟨o2, h3, _, _, h4⟩ := p
      rw [h1] at h3; cases h3; rw [h2] at h4; cases h4
    have hT : s.TypeIs (.ref e) "enumerate" := ⟨_, he, rfl⟩
    unfold pyNext
    refine wpAny_bind (wpAny_attempt (wpAny_callSpecial?_slot (name := Str.ofString "__next__") hT F.slot_enumerate_next
      (wpAny_call_entry F.slot_enumerate_next hT F.entry_enumerate_next ?_ (F.args_enumerate_next_1 _))))
    show wpAny _ _ (field (.ref e) 2 >>= _) _ _ _
    refine wpAny_bind (wpAny_field he rfl (x := .ref it) rfl ?_)
    refine wpAny_bind (wpAny_nextOf_tuple_end (I.ok.hd hc) hit p (by simp; omega) fun h' x he' hx' => ?_)
    obtain ⟨o, ho, hc'⟩ := hx'
    refine wpAny_bind (wpAny_isInstance (T := "StopIteration") (b := true) ⟨o, ho, hc'⟩ isSubtype_stop ?_)
    exact wpAny_pure ⟨rfl, I.turned (t' := s.toks) (fun b o hb q => he' b o hb q) f0 f1 f3 f4 f5⟩
  self := fun A i s Q E st h => let ⟨⟨_, he⟩, _⟩ := st; wpAny_pyIter_enum he h
/-- enumerate(e), e a list or a tuple -/
def iEn (K : PySem.W.Frag) (ta : TA) : TI := fun σ H R => ta σ H fun vs H1 => ∃ a xs, vs = [.ref a] ∧ ((SqL K H1 a xs ∧ R (Ite K a) H1) ∨ (SqT K H1 a xs ∧ R (ItT K a) H1))
theorem pi_en {X : Cx} {e : Expr} {ta : TA} {p pos tpos : Pos} {elts : List Expr} {kk : Nat} (hg : Gl X "enumerate") (hm : X.mg "enumerate" = none) (ha : PA X [e] ta) (hs : starEach [e] X.env = [(false, eval e X.env)] := by rfl) :
    PI X (.Tuple elts kk tpos) (.Call (.Name "enumerate" p) [e] [] pos) (iEn X.K ta) := by
  refine ⟨fun pins s σ H R I h => ?_⟩
  refine Call_ (ld_blt I hg hm boot_enumerate (PyProof.Rows.callWith_type1 (thn (ha.run pos pins s σ H _ I h) fun us s1 ⟨vs, H1, I1, r1, q1⟩ => ?_) hs rfl))
  obtain ⟨a, xs, ex, q1⟩ := q1
  subst ex
  have hfp : ∀ b ∈ [s1.heap.objs.size + 1, s1.heap.objs.size], FpOk X pins H1 b := fun b hb => by
    have e' : b = s1.heap.objs.size + 1 ∨ b = s1.heap.objs.size := by simpa using hb
    have hle : s1.heap.objs.size ≤ b := by
      rcases e' with z | z
      · rw [z]; exact Nat.le_add_right _ _
      · rw [z]; exact Nat.le_refl _
    exact I1.fpOk hle (I1.hok.fresh hle)
  cases r1 with
  | cons r rr =>
    cases rr
    cases r
    rcases q1 with ⟨hq, q⟩ | ⟨hq, q⟩
    · obtain ⟨its, rv, p', hz⟩ := I1.list hq
      refine call_enumerate_list p'.isList fun h' he hit hsz hk => wpAny_pyIter_enum he ?_
      have I2 : Inv X pins σ H1 { s1 with heap := h' } := I1.kept (t' := s1.toks) hk
      exact ⟨s1.heap.objs.size + 1, [s1.heap.objs.size + 1, s1.heap.objs.size], _, _, H1, rfl, I2, turn_enum a (s1.heap.objs.size + 1) s1.heap.objs.size, ⟨⟨.none, he⟩, hit, Nat.succ_ne_self _⟩, hfp, q⟩
    · obtain ⟨its, rv, p', hz⟩ := I1.tuple hq
      refine call_enumT p' fun h' he hit hk => wpAny_pyIter_enum he ?_
      have I2 : Inv X pins σ H1 { s1 with heap := h' } := I1.kept (t' := s1.toks) hk
      exact ⟨s1.heap.objs.size + 1, [s1.heap.objs.size + 1, s1.heap.objs.size], _, _, H1, rfl, I2, turnT a (s1.heap.objs.size + 1) s1.heap.objs.size, ⟨⟨.none, he⟩, hit, Nat.succ_ne_self _⟩, hfp, q⟩
/-! ### what a plain for walks: a list, a tuple, a text -/
def iSeq (K : PySem.W.Frag) (te : TE) : TI := fun σ H R => iList K te σ H R ∨ iTup K te σ H R ∨ iStr te σ H R
theorem pi_seq {X : Cx} {tg e : Expr} {te : TE} (he : PE X e te) : PI X tg e (iSeq X.K te) := by
  refine ⟨fun pins s σ H R I h => ?_⟩
  rcases h with h | h | h
  · exact (pi_list he).run pins s σ H R I h
  · exact (pi_tup he).run pins s σ H R I h
  · exact (pi_str he).run pins s σ H R I h
/-! ### operators -/
def rAdd (K : PySem.W.Frag) : R2 := fun x y H Q => rI0 (fun i j => .int (i + j)) x y H Q ∨ (∃ i j, x = .str i ∧ y = .str j ∧ i.length + j.length ≤ sizeLine ∧ Q (.str (i ++ j)) H) ∨ rCat x y H Q ∨ rCatA K x y H Q
theorem op_ad {X : Cx} : OpR X (binaryOp .Add) (rAdd X.K) := OpR.or op_add (OpR.or op_add_str (OpR.or op_cat op_catA))
abbrev rSub : R2 := rI0 fun i j => .int (i - j)
def rMul : R2 := fun x y H Q => rI CMul (fun i j => .int (i * j)) x y H Q ∨ rI CMulW (fun i j => .int (i * j)) x y H Q ∨ rRep x y H Q
theorem op_ml {X : Cx} : OpR X (binaryOp .Mult) rMul := OpR.or op_mul (OpR.or op_mulW op_rep)
abbrev rDiv : R2 := rI CDivW fun i j => .int (i / j)
abbrev rMod : R2 := rI (fun _ j => 0 < j) fun i j => .int (i % j)
abbrev rPow : R2 := rI CPow fun i j => .int (i ^ j.toNat)
def rEqU (K : PySem.W.Frag) : R2 := fun x y H Q => rEq x y H Q ∨ rEqD K x y H Q
def rNeU (K : PySem.W.Frag) : R2 := fun x y H Q => rNe x y H Q ∨ rNeD K x y H Q
theorem op_equ {X : Cx} (hu : X.A.units + 64 < cLine) : OpR X (compareOp .Eq) (rEqU X.K) := OpR.or op_eq (op_eqD hu)
theorem op_neu {X : Cx} (hu : X.A.units + 64 < cLine) : OpR X (compareOp .NotEq) (rNeU X.K) := OpR.or op_ne (op_neD hu)
abbrev rLt : R2 := rI0 fun i j => .bl (decide (i < j))
abbrev rLe : R2 := rI0 fun i j => .bl (decide (i ≤ j))
abbrev rGt : R2 := rI0 fun i j => .bl (decide (j < i))
abbrev rGe : R2 := rI0 fun i j => .bl (decide (j ≤ i))
/-! ### a def of the module, whatever it lets out -/
structure GFn (P : Program) (w : World) (K : PySem.W.Frag) (mg : Str → Option Value) (base : Heap) (k : Nat) (x : Str) (ps : List Str) (sp : Sp) : Prop where
  ex : ∃ (f : Addr) (fd : FuncData), FnOk P w K mg base (L2.CX P w) k f fd ps sp ∧ mg x = some (.ref f) ∧ PySem.W.keepIn K (.ref f) = true ∧ Binds K fd ps []
theorem GFn.imp {P : Program} {w : World} {K : PySem.W.Frag} {mg : Str → Option Value} {base : Heap} {k : Nat} {x : Str} {ps : List Str} {sp sp' : Sp} (G : GFn P w K mg base k x ps sp) (h : ∀ vs H Q E, sp' vs H Q E → sp vs H Q E) : GFn P w K mg base k x ps sp' := by
  obtain ⟨f, fd, F, m, kp, b⟩ := G.ex
  exact ⟨f, fd, F.imp h, m, kp, b⟩
section
variable {X : Cx} {k : Nat} {x : Str} {ps : List Str} {sp : Sp} {E : XK} {p pos : Pos} {e : Expr} {es : List Expr} {t : TA}
theorem pe_g (G : GFn X.prog X.w X.K X.mg X.base k x ps sp) (hr : Room k X.A) (hg : Gl X x) (hx : Passes (L2.CX X.prog X.w) X E) (ha : PA X (e :: es) t)
    (hdb : (x == ("__debug__" : Str)) = false := by decide) (he : starEach (e :: es) X.env = (false, eval e X.env) :: starEach es X.env := by rfl) (hpl : (backTo pos (starEach es X.env)).any (·.1) = false := by rfl) :
    PE X (.Call (.Name x p) (e :: es) [] pos) (tCall sp [] E t) := by
  obtain ⟨f, fd, F, m, kp, b⟩ := G.ex
  exact pe_call F hr hg m kp b .nil hx ha hdb he hpl
theorem pe_g0 (G : GFn X.prog X.w X.K X.mg X.base k x ps sp) (hr : Room k X.A) (hg : Gl X x) (hx : Passes (L2.CX X.prog X.w) X E) (hdb : (x == ("__debug__" : Str)) = false := by decide) :
    PE X (.Call (.Name x p) [] [] pos) (tCall sp [] E tNil) := by
  obtain ⟨f, fd, F, m, kp, b⟩ := G.ex
  exact pe_call0 F hr hg m kp b .nil hx hdb
end
/-- what a def's own body wants of exceptions -/
theorem px {X : Cx} {E : XK} (hs : X.stack = X.env :: X.outer) (hf : X.env.frame = some X.env.locals) (hex : X.ex = []) {E₁ : Value → Shared → Prop}
    (hx : X.xe = fun e s' => wpAny (model X.prog X.w) X.A (leaving X.env e) (fun _ s'' => L2.CX X.prog X.w X.outer X.H_0 X.s_0 E e s'') E₁ s') : Passes (L2.CX X.prog X.w) X E :=
  passes_call (takes_of hs hf hex hx) fun _ _ _ _ h => h
end U
namespace U
open PySem PySem.Spec PyProof.Rows L2
/-! ### calls by keywords alone -/
def pickV {α : Type} : List Nat → List α → List α
  | [], _ => []
  | i :: r, l => (match l[i]? with | some x => [x] | none => []) ++ pickV r l
theorem pickV_rel {vs : List V} {us : List Value} (r : Vals vs us) : ∀ is : List Nat, Vals (pickV is vs) (pickV is us)
  | [] => .nil
  | i :: is => by
    unfold pickV
    cases e : vs[i]? with
    | none => rw [r.none_of e]; exact pickV_rel r is
    | some x =>
      obtain ⟨u, hu, ru⟩ := r.get e
      rw [hu]
      exact .cons ru (pickV_rel r is)
structure KPerm (fd : FuncData) (ps ks : List Str) (is : List Nat) : Prop where
  b : ∀ ws : List Value, ws.length = ks.length → bindArgs fd ⟨[], ks.zip ws⟩ = pure (ps.zip (pickV is ws))
theorem kperm {K : PySem.W.Frag} {x qual : Str} {params : Arguments} {body : List Stmt} {scope : Scope} {f : Addr} {fd : FuncData} {ps ks : List Str} {is : List Nat} (F : FunD K x qual params body scope [] [] f fd)
    (h : ∀ (kV doc pm : Value) (an : Option Addr) (cdv ct : Value) (ws : List Value), ws.length = ks.length → bindArgs (PySem.W.fnOf x qual params body scope .none kV doc pm an cdv ct) ⟨[], ks.zip ws⟩ = pure (ps.zip (pickV is ws))) : KPerm fd ps ks is := by
  obtain ⟨oc, od, dV, kV, doc, pm, an, cdv, ct, osl, rfl, lk, hcd, hD, hK⟩ := F.ex
  rcases hD with ⟨_, rfl⟩ | ⟨e, _⟩
  · exact ⟨fun ws hl => h kV doc pm an cdv ct ws hl⟩
  · exact absurd rfl e
/-- as GFn, called by keywords named ks -/
structure GKw (P : Program) (w : World) (K : PySem.W.Frag) (mg : Str → Option Value) (base : Heap) (k : Nat) (x : Str) (ps ks : List Str) (is : List Nat) (sp : Sp) : Prop where
  ex : ∃ (f : Addr) (fd : FuncData), FnOk P w K mg base (L2.CX P w) k f fd ps sp ∧ mg x = some (.ref f) ∧ PySem.W.keepIn K (.ref f) = true ∧ KPerm fd ps ks is
def tCallP (sp : Sp) (n : Nat) (is : List Nat) (E : XK) (tk : TA) : TE := fun σ H Q => tk σ H fun zs H2 => zs.length = n ∧ sp (pickV is zs) H2 Q E
theorem pe_gk {X : Cx} {k : Nat} {x : Str} {ps ks : List Str} {is : List Nat} {sp : Sp} {E : XK} {p pos : Pos} {kws : List Keyword} {tk : TA}
    (G : GKw X.prog X.w X.K X.mg X.base k x ps ks is sp) (hr : Room k X.A) (hg : Gl X x) (hx : Passes (L2.CX X.prog X.w) X E) (hkw : PK X kws tk)
    (hall : (backToKw pos (keywordEach kws X.env)).all (·.1.isSome) = true := by rfl) (hks : (backToKw pos (keywordEach kws X.env)).filterMap (·.1) = ks := by rfl) (hdb : (x == ("__debug__" : Str)) = false := by decide)
    (hpl : ((backTo pos (starEach [] X.env)).any (·.1) || (backToKw pos (keywordEach kws X.env)).any (·.1.isNone)) = false := by rfl) :
    PE X (.Call (.Name x p) [] kws pos) (tCallP sp ks.length is E tk) := by
  obtain ⟨f, fd, F, m, kp, b⟩ := G.ex
  refine ⟨fun pins s σ H Q I h => ?_⟩
  refine wpAny_Call_Name_kw (ld_glob I hg m ?_ hdb)
  refine PySem.W.callWith_KW0 (h₀ := X.base) I.ok.mod.kin kp hall ?_ hpl
  refine thn (hkw.run pos pins s σ H _ I h) fun ws s2 ⟨zs, H2, I2, rz, l2, q2⟩ => ⟨I2.kIn, ?_⟩
  rw [hks]
  have B : KBn X.K fd ps 0 ks (fun _ ws => pickV is ws) (fun _ zs => pickV is zs) := ⟨fun s us ws _ l1 l2 => by
    have e : us = [] := List.length_eq_zero_iff.mp l1
    subst e
    exact .of_eq (b.b ws l2), fun _ r => pickV_rel r is⟩
  exact run_fnN (us := []) (vs := []) (n := 0) F hr B hx I2 .nil rz rfl l2 q2
/-- a constant of the module -/
theorem pe_gc {X : Cx} {x : Str} {v : V} {pos : Pos} (hg : Gl X x) (h : ∃ u, X.mg x = some u ∧ RelV v u) (hd : (x == ("__debug__" : Str)) = false := by decide) : PE X (.Name x pos) (tC v) := by
  obtain ⟨u, hm, r⟩ := h
  exact pe_glob hg hm r hd
/-! ### readings of calls by values, named -/
def rAbs : List V → Hp → VK → Prop := fun xs H Q => ∃ i, xs = [.int i] ∧ Q (.int (if i < 0 then -i else i)) H
def rMax2 : List V → Hp → VK → Prop := fun xs H Q => ∃ i j, xs = [.int i, .int j] ∧ Q (.int (if j > i then j else i)) H
def rMin2 : List V → Hp → VK → Prop := fun xs H Q => ∃ i j, xs = [.int i, .int j] ∧ Q (.int (if j < i then j else i)) H
def rInt : List V → Hp → VK → Prop := fun xs H Q => ((∃ i, xs = [.int i] ∧ Q (.int i) H) ∨ ∃ k, xs = [.bl k] ∧ Q (.int (if k then 1 else 0)) H) ∨ ∃ a n, xs = [.str a] ∧ PySem.intText? a = some n ∧ a.length ≤ 640 ∧ Q (.int n) H
theorem call_in {X : Cx} : CallR X (.type "int") rInt := CallR.or call_int1 call_int_str
def rLen (K : PySem.W.Frag) : List V → Hp → VK → Prop := fun xs H Q => (∃ p ys, xs = [.ref p] ∧ (SqL K H p ys ∨ SqT K H p ys) ∧ Q (.int ys.length) H) ∨ ∃ z, xs = [.str z] ∧ z.length ≤ sizeLine ∧ Q (.int z.length) H
theorem call_ln {X : Cx} : CallR X (.builtin "len") (rLen X.K) := CallR.or call_len_seq call_len_str
def rList (K : PySem.W.Frag) : List V → Hp → VK → Prop := fun xs H Q => ∃ p ys, xs = [.ref p] ∧ (SqL K H p ys ∨ SqT K H p ys) ∧ ∀ l, H l = none → Q (.ref l) (upd H l (.lst ys))
def rTup (K : PySem.W.Frag) : List V → Hp → VK → Prop := fun xs H Q => ∃ p ys, xs = [.ref p] ∧ ((SqL K H p ys ∧ ∀ l, H l = none → Q (.ref l) (upd H l (.tup ys))) ∨ (SqT K H p ys ∧ Q (.ref p) H))
/-! ### slices, in-place operators -/
def rIpAdd : TIp := fun x y H Q => rI0 (fun i j => .int (i + j)) x y H Q ∨ ∃ i j, x = .str i ∧ y = .str j ∧ i.length + j.length ≤ sizeLine ∧ Q (.str (i ++ j)) H
theorem ip_ad {X : Cx} : PIp X .Add rIpAdd := OpR.or iop_add iop_add_str
abbrev rIpMul : TIp := rI CMul fun i j => .int (i * j)
theorem ip_ml {X : Cx} : PIp X .Mult rIpMul := iop_mul
def rSlU (K : PySem.W.Frag) : V → Option Int → Option Int → Hp → VK → Prop := fun x lo hi H Q => rSlL K x lo hi H Q ∨ rSlA K x lo hi H Q ∨ rSlS x lo hi H Q
theorem sl_u {X : Cx} : SlR X (rSlU X.K) := SlR.or sl_list (SlR.or sl_tupA sl_str)
theorem body {P : Program} {w : World} {K : PySem.W.Frag} {mg : Str → Option Value} {base : Heap} {N : List Str} {qual : Str} {scope : Scope} {f : Addr} {cdv : Value} {A : Around} {outer : List Env} {s : Shared} {H : Hp} {E : XK} {b : List Stmt} {t : TS}
    (h : Passes (L2.CX P w) (cxOf (L2.CX P w) P w K mg base N qual scope f cdv A outer s H E) E → PassesOwn (model P w) (cxOf (L2.CX P w) P w K mg base N qual scope f cdv A outer s H E).A (cxOf (L2.CX P w) P w K mg base N qual scope f cdv A outer s H E).env (cxOf (L2.CX P w) P w K mg base N qual scope f cdv A outer s H E).xe →
      PSs (cxOf (L2.CX P w) P w K mg base N qual scope f cdv A outer s H E) b t) : PSs (cxOf (L2.CX P w) P w K mg base N qual scope f cdv A outer s H E) b t := h (px rfl rfl rfl rfl) (passes_of rfl)
end U
namespace U
open PySem PySem.Spec PyProof.Rows L2
/-- a statement that is not reached -/
def tNever : TS := fun _ _ _ => False
theorem ps_never {X : Cx} {st : Stmt} : PS X st tNever := ⟨fun _ _ _ _ _ _ h => h.elim⟩
end U
namespace U
open PySem PySem.Spec PyProof.Rows L2
/-- a op1 b op2 c op3 d -/
def tChain3 (r1 r2 r3 : R2) (ta tb tc td : TE) : TE := fun σ H Q => ta σ H fun x H1 => tb σ H1 fun y H2 => r1 x y H2 fun z H3 => ∃ k, z = .bl k ∧
  (if k = true then tc σ H3 fun w H4 => r2 y w H4 fun z2 H5 => ∃ k2, z2 = .bl k2 ∧ (if k2 = true then td σ H5 fun u H6 => r3 w u H6 Q else Q (.bl false) H5) else Q (.bl false) H3)
theorem pt_chain3 {X : Cx} {a b c d : Expr} {ta tb tc td : TE} {pos : Pos} {op op' op'' : CmpOp} {r r' r'' : R2} (ho : OpR X (compareOp op) r) (ho' : OpR X (compareOp op') r') (ho'' : OpR X (compareOp op'') r'') (ha : PE X a ta) (hb : PE X b tb) (hc : PE X c tc) (hd : PE X d td)
    (hm : lastMarks [op, op', op''] [b, c, d] = false := by with_unfolding_all rfl) : PT X (.Compare a [op, op', op''] [b, c, d] pos) (tTest (tChain3 r r' r'' ta tb tc td)) := by
  refine ⟨fun pins s σ H Q I h => ?_⟩
  refine isTrue_chain (thn (ha.run pins s σ H _ I h) fun v s1 ⟨x, H1, I1, r1, q1⟩ => test_link (thn (hb.run pins s1 σ H1 _ I1 q1) fun u s2 ⟨y, H2, I2, r2, q2⟩ =>
    thn (ho pins s2 σ H2 x y v u _ I2 r1 r2 q2) fun e s3 ⟨z, H3, I3, r3, k, ez, q3⟩ => ?_)) hm
  subst ez
  cases r3
  refine wpAny_truthy_bool ?_
  cases k with
  | false =>
    obtain ⟨k', e', q'⟩ := q3
    cases e'
    exact ite_ff ⟨H3, I3, q'⟩
  | true =>
    refine ite_tt (test_link (thn (hc.run pins s3 σ H3 _ I3 q3) fun w' s4 ⟨z', H4, I4, r4, q4⟩ => thn (ho' pins s4 σ H4 y z' u w' _ I4 r2 r4 q4) fun d' s5 ⟨z2, H5, I5, r5, k2, e2, q5⟩ => ?_))
    subst e2
    cases r5
    refine wpAny_truthy_bool ?_
    cases k2 with
    | false =>
      obtain ⟨k', e', q'⟩ := q5
      cases e'
      exact ite_ff ⟨H5, I5, q'⟩
    | true =>
      refine ite_tt (test_last (thn (hd.run pins s5 σ H5 _ I5 q5) fun w2 s6 ⟨z6, H6, I6, r6, q6⟩ => thn (ho'' pins s6 σ H6 z' z6 w' w2 _ I6 r4 r6 q6) fun d2 s7 ⟨z7, H7, I7, r7, k7, e7, q7⟩ => ?_))
      subst e7
      cases r7
      exact wpAny_truthy_bool ⟨H7, I7, q7⟩
end U

namespace R
open PySem L2
section
variable {σ : L2.St} {H : Hp} {Q : VK} {v x y : V} {a b : Int} {K : PySem.W.Frag} {p q : Addr} {xs ys : List V} {s z : Str}
theorem adI (h : Q (.int (a + b)) H) : U.rAdd K (.int a) (.int b) H Q := .inl ⟨a, b, rfl, rfl, h⟩
theorem adS (l : s.length + z.length ≤ sizeLine) (h : Q (.str (s ++ z)) H) : U.rAdd K (.str s) (.str z) H Q := .inr (.inl ⟨s, z, rfl, rfl, l, h⟩)
theorem adL (h1 : H p = some (.lst xs)) (h2 : H q = some (.lst ys)) (l : xs.length + ys.length ≤ sizeLine) (h : ∀ r, H r = none → Q (.ref r) (upd H r (.lst (xs ++ ys)))) : U.rAdd K (.ref p) (.ref q) H Q := .inr (.inr (.inl ⟨p, q, xs, ys, rfl, rfl, h1, h2, l, h⟩))
theorem mlI (c : CMul a b) (h : Q (.int (a * b)) H) : U.rMul (.int a) (.int b) H Q := .inl ⟨a, b, rfl, rfl, c, h⟩
theorem p64 : (2 : Int) ^ 64 = 18446744073709551616 := by decide
theorem mlA (h1 : -18446744073709551616 < a) (h2 : a < 18446744073709551616) (h : Q (.int (a * b)) H) : U.rMul (.int a) (.int b) H Q := mlI (Or.inl ⟨by rw [p64]; exact h1, by rw [p64]; exact h2⟩) h
theorem mlB (h1 : -18446744073709551616 < b) (h2 : b < 18446744073709551616) (h : Q (.int (a * b)) H) : U.rMul (.int a) (.int b) H Q := mlI (Or.inr ⟨by rw [p64]; exact h1, by rw [p64]; exact h2⟩) h
theorem mlW (c : CMulW a b) (h : Q (.int (a * b)) H) : U.rMul (.int a) (.int b) H Q := .inr (.inl ⟨a, b, rfl, rfl, c, h⟩)
theorem mlL (h1 : H p = some (.lst xs)) (k0 : -(2 ^ 63) ≤ b) (k1 : b < 2 ^ 63) (l : xs.length * b.toNat ≤ sizeLine) (h : ∀ r, H r = none → Q (.ref r) (upd H r (.lst (List.replicate b.toNat xs).flatten))) : U.rMul (.ref p) (.int b) H Q := .inr (.inr ⟨p, b, xs, rfl, rfl, h1, k0, k1, l, h⟩)
theorem dvW (c : CDivW a b) (h : Q (.int (a / b)) H) : U.rDiv (.int a) (.int b) H Q := ⟨a, b, rfl, rfl, c, h⟩
theorem cDiv (h : 0 < b) (h2 : b < 4611686018427387904) : CDivW a b := by
  refine wide_div (b := 62) h ?_ (by decide) (by decide)
  have e : (2 : Nat) ^ 62 = 4611686018427387904 := by decide
  rw [e]; omega
theorem pw {d : Int} (h0 : 0 ≤ b) (h1 : b ≤ 1000000) (h2 : a.natAbs < 18446744073709551616) (e : a ^ b.toNat = d) (h : Q (.int d) H) : U.rPow (.int a) (.int b) H Q := ⟨a, b, rfl, rfl, ⟨h0, h1, h2⟩, by show Q (.int (a ^ b.toNat)) H; rw [e]; exact h⟩
theorem pw9 (h : Q (.int 1000000000) H) : U.rPow (.int 10) (.int 9) H Q := pw (d := 1000000000) (by decide) (by decide) (by decide) (by decide) h
theorem pw18 (h : Q (.int 1000000000000000000) H) : U.rPow (.int 10) (.int 18) H Q := pw (d := 1000000000000000000) (by decide) (by decide) (by decide) (by decide) h
theorem pw6 (h : Q (.int 1000000) H) : U.rPow (.int 10) (.int 6) H Q := pw (d := 1000000) (by decide) (by decide) (by decide) (by decide) h
theorem pw8 (h : Q (.int 100000000) H) : U.rPow (.int 10) (.int 8) H Q := pw (d := 100000000) (by decide) (by decide) (by decide) (by decide) h
theorem mdI (c : 0 < b) (h : Q (.int (a % b)) H) : U.rMod (.int a) (.int b) H Q := ⟨a, b, rfl, rfl, c, h⟩
theorem euI (h : Q (.bl (decide (a = b))) H) : U.rEqU K (.int a) (.int b) H Q := .inl (eqI h)
theorem nuI (h : Q (.bl (!decide (a = b))) H) : U.rNeU K (.int a) (.int b) H Q := .inl (neI h)
theorem euS (h : Q (.bl (decide (s = z))) H) : U.rEqU K (.str s) (.str z) H Q := .inl (eqS h)
theorem nuS (h : Q (.bl (!decide (s = z))) H) : U.rNeU K (.str s) (.str z) H Q := .inl (neS h)
theorem euD {d e : PyData} (h1 : Dp K H x d) (h2 : Dp K H y e) (s1 : SeqAt.shaped d = true) (s2 : SeqAt.shaped e = true) (h : Q (.bl (PyData.eqv d e)) H) : U.rEqU K x y H Q := .inr ⟨d, e, h1, h2, s1, s2, h⟩
theorem nuD {d e : PyData} (h1 : Dp K H x d) (h2 : Dp K H y e) (s1 : SeqAt.shaped d = true) (s2 : SeqAt.shaped e = true) (h : Q (.bl (!PyData.eqv d e)) H) : U.rNeU K x y H Q := .inr ⟨d, e, h1, h2, s1, s2, h⟩
theorem lt (h : Q (.bl (decide (a < b))) H) : U.rLt (.int a) (.int b) H Q := ⟨a, b, rfl, rfl, h⟩
theorem le (h : Q (.bl (decide (a ≤ b))) H) : U.rLe (.int a) (.int b) H Q := ⟨a, b, rfl, rfl, h⟩
theorem gt (h : Q (.bl (decide (b < a))) H) : U.rGt (.int a) (.int b) H Q := ⟨a, b, rfl, rfl, h⟩
theorem ge (h : Q (.bl (decide (b ≤ a))) H) : U.rGe (.int a) (.int b) H Q := ⟨a, b, rfl, rfl, h⟩
theorem lnL (h1 : SqL K H p xs) (h : Q (.int xs.length) H) : U.rLen K [.ref p] H Q := .inl ⟨p, xs, rfl, .inl h1, h⟩
theorem lnT (h1 : SqT K H p xs) (h : Q (.int xs.length) H) : U.rLen K [.ref p] H Q := .inl ⟨p, xs, rfl, .inr h1, h⟩
theorem lnS (l : s.length ≤ sizeLine) (h : Q (.int s.length) H) : U.rLen K [.str s] H Q := .inr ⟨s, rfl, l, h⟩
theorem inI (h : Q (.int a) H) : U.rInt [.int a] H Q := .inl (.inl ⟨a, rfl, h⟩)
theorem inB {k : Bool} (h : Q (.int (if k then 1 else 0)) H) : U.rInt [.bl k] H Q := .inl (.inr ⟨k, rfl, h⟩)
theorem abs (h : Q (.int (if a < 0 then -a else a)) H) : U.rAbs [.int a] H Q := ⟨a, rfl, h⟩
theorem max2 (h : Q (.int (if b > a then b else a)) H) : U.rMax2 [.int a, .int b] H Q := ⟨a, b, rfl, h⟩
theorem min2 (h : Q (.int (if b < a then b else a)) H) : U.rMin2 [.int a, .int b] H Q := ⟨a, b, rfl, h⟩
theorem listL (h1 : SqL K H p xs) (h : ∀ l, H l = none → Q (.ref l) (upd H l (.lst xs))) : U.rList K [.ref p] H Q := ⟨p, xs, rfl, .inl h1, h⟩
theorem listT (h1 : SqT K H p xs) (h : ∀ l, H l = none → Q (.ref l) (upd H l (.lst xs))) : U.rList K [.ref p] H Q := ⟨p, xs, rfl, .inr h1, h⟩
theorem tupL (h1 : SqL K H p xs) (h : ∀ l, H l = none → Q (.ref l) (upd H l (.tup xs))) : U.rTup K [.ref p] H Q := ⟨p, xs, rfl, .inl ⟨h1, h⟩⟩
theorem tupT (h1 : SqT K H p xs) (h : Q (.ref p) H) : U.rTup K [.ref p] H Q := ⟨p, xs, rfl, .inr ⟨h1, h⟩⟩
theorem ixuL (h1 : SqL K H p xs) (e : atI xs a = some v) (h : Q v H) : rIx K (.ref p) (.int a) H Q := .inl ⟨p, xs, a, v, rfl, rfl, h1, e, h⟩
theorem ixuT (h1 : SqT K H p xs) (e : atI xs a = some v) (h : Q v H) : rIx K (.ref p) (.int a) H Q := .inr (.inl ⟨p, xs, a, v, rfl, rfl, h1, e, h⟩)
theorem callP {sp : Sp} {n : Nat} {is : List Nat} {E : XK} {tk : TA} (h : tk σ H fun zs H2 => zs.length = n ∧ sp (U.pickV is zs) H2 Q E) : U.tCallP sp n is E tk σ H Q := h
/-! what kind a value is -/
inductive Kn where
  | non | bl | int | str | lst | tup | dic
def Kn.name : Kn → String
  | .non => "NoneType" | .bl => "bool" | .int => "int" | .str => "str" | .lst => "list" | .tup => "tuple" | .dic => "dict"
inductive Pl (K : PySem.W.Frag) (H : Hp) : V → Kn → Prop where
  | non : Pl K H .non .non
  | bl (b : Bool) : Pl K H (.bl b) .bl
  | int (i : Int) : Pl K H (.int i) .int
  | str (s : Str) : Pl K H (.str s) .str
  | lst {a : Addr} {xs : List V} (h : SqL K H a xs) : Pl K H (.ref a) .lst
  | tup {a : Addr} {xs : List V} (h : SqT K H a xs) : Pl K H (.ref a) .tup
  | dic {a : Addr} {kvs : List (Key × V)} (h : H a = some (.dK kvs)) : Pl K H (.ref a) .dic
theorem Pl.ty {n : Kn} (h : Pl K H x n) : TyX K H x (.type n.name) := by
  cases h with
  | non => exact .base .non
  | bl b => exact .base (.bl b)
  | int i => exact .base (.int i)
  | str s => exact .base (.str s)
  | lst h =>
    rcases h with (h | ⟨o, h⟩) | ⟨o, its, n, e, c, _⟩
    · exact .base (.lst h)
    · exact .base (.frz h)
    · exact .kList e c
  | tup h =>
    rcases h with (h | ⟨o, h⟩) | ⟨o, its, n, e, c, _⟩
    · exact .base (.tup h)
    · exact .fTuple h
    · exact .kTuple e c
  | dic h => exact .base (.dK h)
def Kn.isI : Kn → Bool | .int => true | .bl => true | _ => false
def Kn.isB : Kn → Bool | .bl => true | _ => false
def Kn.isS : Kn → Bool | .str => true | _ => false
def Kn.isL : Kn → Bool | .lst => true | _ => false
def Kn.isT : Kn → Bool | .tup => true | _ => false
def Kn.isD : Kn → Bool | .dic => true | _ => false
theorem kI (n : Kn) : kitB n.name "int" = some n.isI := by cases n <;> decide +kernel
theorem kB (n : Kn) : kitB n.name "bool" = some n.isB := by cases n <;> decide +kernel
theorem kS (n : Kn) : kitB n.name "str" = some n.isS := by cases n <;> decide +kernel
theorem kL (n : Kn) : kitB n.name "list" = some n.isL := by cases n <;> decide +kernel
theorem kT (n : Kn) : kitB n.name "tuple" = some n.isT := by cases n <;> decide +kernel
theorem kD (n : Kn) : kitB n.name "dict" = some n.isD := by cases n <;> decide +kernel
theorem isi {n : Kn} {m : String} {r r' : Bool} (h1 : Pl K H x n) (e : kitB n.name m = some r) (e2 : r = r') (h : Q (.bl r') H) : rIsi K [x, .ty m] H Q := by
  subst e2
  exact ⟨x, .ty m, .type n.name, .type m, r, rfl, .ty m, h1.ty, kit_ty e, h⟩
theorem isiI {n : Kn} (r : Bool) (h1 : Pl K H x n) (e : n.isI = r) (h : Q (.bl r) H) : rIsi K [x, .ty "int"] H Q := isi h1 (kI n) e h
theorem isiB {n : Kn} (r : Bool) (h1 : Pl K H x n) (e : n.isB = r) (h : Q (.bl r) H) : rIsi K [x, .ty "bool"] H Q := isi h1 (kB n) e h
theorem isiS {n : Kn} (r : Bool) (h1 : Pl K H x n) (e : n.isS = r) (h : Q (.bl r) H) : rIsi K [x, .ty "str"] H Q := isi h1 (kS n) e h
theorem isiL {n : Kn} (r : Bool) (h1 : Pl K H x n) (e : n.isL = r) (h : Q (.bl r) H) : rIsi K [x, .ty "list"] H Q := isi h1 (kL n) e h
theorem isiT {n : Kn} (r : Bool) (h1 : Pl K H x n) (e : n.isT = r) (h : Q (.bl r) H) : rIsi K [x, .ty "tuple"] H Q := isi h1 (kT n) e h
theorem isiD {n : Kn} (r : Bool) (h1 : Pl K H x n) (e : n.isD = r) (h : Q (.bl r) H) : rIsi K [x, .ty "dict"] H Q := isi h1 (kD n) e h
/-- isinstance(x, (list, tuple)) -/
theorem isiLT {t : Addr} {n : Kn} (r : Bool) (ht : H t = some (.tup [.ty "list", .ty "tuple"])) (h1 : Pl K H x n) (e : (n.isL || n.isT) = r) (h : Q (.bl r) H) : rIsiT K [x, .ref t] H Q := by
  subst e
  refine ⟨x, t, _, .type n.name, [.type "list", .type "tuple"], n.isL || n.isT, rfl, ht, .cons (.ty _) (.cons (.ty _) .nil), h1.ty, ?_, h⟩
  refine kitAny_cons (kit_ty (kL n)) (fun z => ?_) (fun z => by rw [z]; rfl)
  rw [z]
  refine kitAny_cons (kit_ty (kT n)) (fun z => ?_) (fun z => by rw [z]; rfl)
  rw [z]
  exact kitAny_nil
/-! loops -/
theorem forL {te : TE} {g : TG} {tb : TS} {D : Ends} (h : te σ H fun x H1 => ∃ a xs, x = .ref a ∧ SqL K H1 a xs ∧ ∃ Pv : Nat → L2.St → Hp → Prop, Pv 0 σ H1 ∧ (∀ i σ H, i ≤ xs.length → Pv i σ H → SqL K H a xs) ∧
    (∀ i x σ H, xs[i]? = some x → Pv i σ H → g x σ H fun σ2 H2 => tb { D with nx := Pv (i + 1), ct := Pv (i + 1), bk := D.nx } σ2 H2) ∧ ∀ σ H, Pv xs.length σ H → D.nx σ H)
    (mono : ∀ Q Q' : VK, (∀ v H, Q v H → Q' v H) → te σ H Q → te σ H Q') : tFor (U.iSeq K te) g tb D σ H :=
  Or.inl (mono _ _ (fun x H1 ⟨a, xs, e, hq, Pv, h0, hl, hs, hd⟩ => ⟨a, e, ⟨xs, hq⟩, for_list Pv h0 hl hs hd⟩) h)
/-- over a name's list -/
theorem forLV {i : Nat} {g : TG} {tb : TS} {D : Ends} {a : Addr} (hv : σ[i]? = some (some (.ref a))) (hq : SqL K H a xs) (Pv : Nat → L2.St → Hp → Prop) (h0 : Pv 0 σ H) (hl : ∀ i σ H, i ≤ xs.length → Pv i σ H → SqL K H a xs)
    (hs : ∀ i x σ H, xs[i]? = some x → Pv i σ H → g x σ H fun σ2 H2 => tb { D with nx := Pv (i + 1), ct := Pv (i + 1), bk := D.nx } σ2 H2) (hd : ∀ σ H, Pv xs.length σ H → D.nx σ H) : tFor (U.iSeq K (tVar i)) g tb D σ H :=
  Or.inl ⟨_, hv, a, rfl, ⟨xs, hq⟩, for_list Pv h0 hl hs hd⟩
theorem forTV {i : Nat} {g : TG} {tb : TS} {D : Ends} {a : Addr} (hv : σ[i]? = some (some (.ref a))) (hq : SqT K H a xs) (Pv : Nat → L2.St → Hp → Prop) (h0 : Pv 0 σ H) (hl : ∀ i σ H, i ≤ xs.length → Pv i σ H → SqT K H a xs)
    (hs : ∀ i x σ H, xs[i]? = some x → Pv i σ H → g x σ H fun σ2 H2 => tb { D with nx := Pv (i + 1), ct := Pv (i + 1), bk := D.nx } σ2 H2) (hd : ∀ σ H, Pv xs.length σ H → D.nx σ H) : tFor (U.iSeq K (tVar i)) g tb D σ H :=
  Or.inr (Or.inl ⟨_, hv, a, rfl, ⟨xs, hq⟩, for_tup Pv h0 hl hs hd⟩)
/-- a list or a tuple -/
def Sq (K : PySem.W.Frag) (H : Hp) (a : Addr) (xs : List V) : Prop := SqL K H a xs ∨ SqT K H a xs
/-- which of the two it is -/
def SqK (K : PySem.W.Frag) (l : Bool) (H : Hp) (a : Addr) (xs : List V) : Prop := if l = true then SqL K H a xs else SqT K H a xs
theorem SqK.sq {l : Bool} (h : SqK K l H p xs) : Sq K H p xs := by
  cases l with
  | true => exact .inl h
  | false => exact .inr h
theorem SqK.pl {l : Bool} (h : SqK K l H p xs) : Pl K H (.ref p) (if l then .lst else .tup) := by
  cases l with
  | true => exact .lst h
  | false => exact .tup h
theorem forSV {l : Bool} {i : Nat} {g : TG} {tb : TS} {D : Ends} {a : Addr} (hv : σ[i]? = some (some (.ref a))) (hq : SqK K l H a xs) (Pv : Nat → L2.St → Hp → Prop) (h0 : Pv 0 σ H) (hl : ∀ i σ H, i ≤ xs.length → Pv i σ H → SqK K l H a xs)
    (hs : ∀ i x σ H, xs[i]? = some x → Pv i σ H → g x σ H fun σ2 H2 => tb { D with nx := Pv (i + 1), ct := Pv (i + 1), bk := D.nx } σ2 H2) (hd : ∀ σ H, Pv xs.length σ H → D.nx σ H) : tFor (U.iSeq K (tVar i)) g tb D σ H := by
  cases l with
  | true => exact forLV hv hq Pv h0 hl hs hd
  | false => exact forTV hv hq Pv h0 hl hs hd
theorem walk_enT : Walk (U.ItT K p) xs.length (fun H => SqT K H p xs) (YPair (fun i => some (.int (i : Nat))) (fun i => xs[i]?)) := by
  refine ⟨fun i _ hi q => ⟨xs, xs[i], q, by simp [hi]⟩, fun _ q => ⟨xs, q, Nat.le_refl _⟩, fun i H v H' _ q y => ?_⟩
  obtain ⟨T, x, h1, h2, h3, h4⟩ := y
  exact ⟨T, .int (i : Nat), x, h1, h2, h3, rfl, h4 xs q⟩
/-- for j, x in enumerate(name) -/
theorem forEn {l : Bool} {i : Nat} {g : TG} {tb : TS} {D : Ends} {a : Addr} (hv : σ[i]? = some (some (.ref a))) (hq : SqK K l H a xs) (Pv : Nat → L2.St → Hp → Prop) (h0 : Pv 0 σ H) (hl : ∀ i σ H, i ≤ xs.length → Pv i σ H → SqK K l H a xs)
    (hs : ∀ i x T σ H, xs[i]? = some x → Pv i σ H → H T = none → g (.ref T) σ (upd H T (.tup [.int (i : Nat), x])) fun σ2 H2 => tb { D with nx := Pv (i + 1), ct := Pv (i + 1), bk := D.nx } σ2 H2) (hd : ∀ σ H, Pv xs.length σ H → D.nx σ H) :
    tFor (U.iEn K (tCons (tVar i) tNil)) g tb D σ H := by
  refine ⟨_, hv, a, xs, rfl, ?_⟩
  cases l with
  | true =>
    refine .inl ⟨hq, for_it walk_enum Pv h0 hl (fun j v σ' H1 H2 hj p y => ?_) hd⟩
    obtain ⟨T, x, z, rfl, hT, rfl, e1, e2⟩ := y
    cases e1
    exact hs j z T σ' H1 e2 p hT
  | false =>
    refine .inr ⟨hq, for_it walk_enT Pv h0 hl (fun j v σ' H1 H2 hj p y => ?_) hd⟩
    obtain ⟨T, x, z, rfl, hT, rfl, e1, e2⟩ := y
    cases e1
    exact hs j z T σ' H1 e2 p hT
theorem forR1 {ta : TE} {g : TG} {tb : TS} {D : Ends} (h : ta σ H fun x H1 => ∃ j : Int, x = .int j ∧ -(2 ^ 62) ≤ j ∧ j < 2 ^ 62 ∧ ∃ Pv : Nat → L2.St → Hp → Prop, Pv 0 σ H1 ∧
    (∀ i σ H, i < j.toNat → Pv i σ H → g (.int (i : Nat)) σ H fun σ2 H2 => tb { D with nx := Pv (i + 1), ct := Pv (i + 1), bk := D.nx } σ2 H2) ∧ ∀ σ H, Pv j.toNat σ H → D.nx σ H)
    (mono : ∀ Q Q' : VK, (∀ v H, Q v H → Q' v H) → ta σ H Q → ta σ H Q') : tFor (iRng1 (tCons ta tNil)) g tb D σ H :=
  mono _ _ (fun x H1 ⟨j, e, b1, b2, Pv, h0, hs, hd⟩ => ⟨j, by rw [e], b1, b2, for_range Pv h0 (fun i σ H hi p => by
    have z : (0 : Int) + ((i : Nat) : Int) = ((i : Nat) : Int) := Int.zero_add _
    rw [z]; exact hs i σ H hi p) hd⟩) h
end
end R
namespace R
open PySem L2
section
variable {H : Hp} {K : PySem.W.Frag} {a q : Addr} {o : HO} {xs : List V} {x : V}
theorem rdOld {u : HO} (nq : H q = none) (h : Rd H a u) : Rd (upd H q o) a u := by
  rcases h with h | ⟨z, h⟩
  · exact .inl (updOld nq h)
  · exact .inr ⟨z, updOld nq h⟩
theorem rdNe {u : HO} (n : a ≠ q) (h : Rd H a u) : Rd (upd H q o) a u := by
  rcases h with h | ⟨z, h⟩
  · exact .inl (updNe n h)
  · exact .inr ⟨z, updNe n h⟩
theorem sqlOld (nq : H q = none) (h : SqL K H a xs) : SqL K (upd H q o) a xs := by
  rcases h with h | h
  · exact .inl (rdOld nq h)
  · exact .inr h
theorem sqtOld (nq : H q = none) (h : SqT K H a xs) : SqT K (upd H q o) a xs := by
  rcases h with h | h
  · exact .inl (rdOld nq h)
  · exact .inr h
theorem sqlNe (n : a ≠ q) (h : SqL K H a xs) : SqL K (upd H q o) a xs := by
  rcases h with h | h
  · exact .inl (rdNe n h)
  · exact .inr h
theorem sqtNe (n : a ≠ q) (h : SqT K H a xs) : SqT K (upd H q o) a xs := by
  rcases h with h | h
  · exact .inl (rdNe n h)
  · exact .inr h
/-- what stood stands -/
def Ex (H H' : Hp) : Prop := ∀ b o, H b = some o → H' b = some o
theorem Ex.refl (H : Hp) : Ex H H := fun _ _ h => h
theorem Ex.tr {H1 H2 H3 : Hp} (e : Ex H1 H2) (f : Ex H2 H3) : Ex H1 H3 := fun b o h => f b o (e b o h)
theorem Ex.new (n : H q = none) : Ex H (upd H q o) := fun _ _ h => updOld n h
theorem Ex.free {H' : Hp} (e : Ex H H') (n : H' q = none) : H q = none := by
  cases h : H q with
  | none => rfl
  | some o => rw [e q o h] at n; cases n
/-- an object that H does not know is changed -/
theorem Ex.mut {H' : Hp} (e : Ex H H') (n : H q = none) : Ex H (upd H' q o) := fun b u h => by
  rw [upd_ne (ne_of_none h n)]; exact e b u h
theorem Ex.rd {H' : Hp} {u : HO} (e : Ex H H') (h : Rd H a u) : Rd H' a u := by
  rcases h with h | ⟨z, h⟩
  · exact .inl (e _ _ h)
  · exact .inr ⟨z, e _ _ h⟩
theorem Ex.l {H' : Hp} (e : Ex H H') (h : SqL K H a xs) : SqL K H' a xs := by
  rcases h with h | h
  · exact .inl (e.rd h)
  · exact .inr h
theorem Ex.t {H' : Hp} (e : Ex H H') (h : SqT K H a xs) : SqT K H' a xs := by
  rcases h with h | h
  · exact .inl (e.rd h)
  · exact .inr h
theorem Ex.k {H' : Hp} {l : Bool} (e : Ex H H') (h : SqK K l H a xs) : SqK K l H' a xs := by
  cases l with
  | true => exact e.l h
  | false => exact e.t h
theorem Ex.pl {H' : Hp} {n : Kn} (e : Ex H H') (h : Pl K H x n) : Pl K H' x n := by
  cases h with
  | non => exact .non
  | bl b => exact .bl b
  | int i => exact .int i
  | str s => exact .str s
  | lst h => exact .lst (e.l h)
  | tup h => exact .tup (e.t h)
  | dic h => exact .dic (e _ _ h)
end
end R
namespace R
theorem iteNT {A B : Prop} (h : A) : if (!false) = true then A else B := h
theorem iteNF {A B : Prop} (h : B) : if (!true) = true then A else B := h
end R
namespace R
open PySem L2
section
variable {σ : L2.St} {H : Hp} {Q : VK} {v x y z : V} {a b d : Int} {K : PySem.W.Frag} {p : Addr} {xs : List V} {D : Ends}
theorem ipA (h : Q (.int (a + b)) H) : U.rIpAdd (.int a) (.int b) H Q := .inl ⟨a, b, rfl, rfl, h⟩
theorem ipS {s u : Str} (l : s.length + u.length ≤ sizeLine) (h : Q (.str (s ++ u)) H) : U.rIpAdd (.str s) (.str u) H Q := .inr ⟨s, u, rfl, rfl, l, h⟩
theorem par3 {i j l : Nat} {ta : TA} (h : ta σ H fun vs H1 => ∃ u v w, vs = [u, v, w] ∧ D.nx (((σ.set i (some u)).set j (some v)).set l (some w)) H1) : tPar3 i j l ta D σ H := h
theorem exVs3 {P : V → V → V → Prop} (q : P x y z) : ∃ u v w, ([x, y, z] : List V) = [u, v, w] ∧ P u v w := ⟨x, y, z, rfl, q⟩
/-- an item of a menu of ints -/
theorem menu {ns : List Int} (P : Int → Prop) (h : SqL K H p xs) (e : xs = ns.map V.int) (d0 : 0 ≤ d) (d1 : d < (ns.length : Int)) (hp : ∀ n ∈ ns, P n) (q : ∀ n, P n → Q (.int n) H) : rIx K (.ref p) (.int d) H Q := by
  subst e
  obtain ⟨j, rfl⟩ : ∃ j : Nat, d = (j : Int) := ⟨d.toNat, by omega⟩
  have hi : j < ns.length := by omega
  refine ixuL h (v := .int ns[j]) (atI_nat ?_) (q _ (hp _ (List.getElem_mem hi)))
  rw [List.getElem?_map, List.getElem?_eq_getElem hi]
  rfl
end
end R
namespace R
open PySem L2
section
variable {H : Hp} {x : V} {p : Addr}
/-- what stood stands but at p -/
def ExB (p : Addr) (H H' : Hp) : Prop := ∀ b o, b ≠ p → H b = some o → H' b = some o
theorem ExB.refl : ExB p H H := fun _ _ _ h => h
theorem ExB.tr {H1 H2 : Hp} (e : ExB p H H1) (f : ExB p H1 H2) : ExB p H H2 := fun b o n h => f b o n (e b o n h)
theorem ExB.at {o : HO} : ExB p H (upd H p o) := fun b u n h => by rw [upd_ne n]; exact h
theorem ExB.new {q : Addr} {o : HO} (n : H q = none) : ExB p H (upd H q o) := fun b u _ h => updOld n h
theorem Ex.xb {H1 : Hp} (e : Ex H H1) : ExB p H H1 := fun b o _ h => e b o h
theorem ExB.mut {H1 : Hp} {q : Addr} {o : HO} (e : ExB p H H1) (n : H q = none) : ExB p H (upd H1 q o) := fun b u m h => by
  rw [upd_ne (ne_of_none h n)]; exact e b u m h
theorem drop_cons {α : Type} {l : List α} {i : Nat} {x : α} (h : l[i]? = some x) : l.drop i = x :: l.drop (i + 1) := by
  obtain ⟨hi, e⟩ := List.getElem?_eq_some_iff.mp h
  rw [List.drop_eq_getElem_cons hi, e]
theorem map_at {ns : List Int} {i : Nat} (h : (ns.map V.int)[i]? = some x) : ∃ n, ns[i]? = some n ∧ x = .int n := by
  rw [List.getElem?_map] at h
  cases e : ns[i]? with
  | none => rw [e] at h; cases h
  | some n => rw [e] at h; exact ⟨n, rfl, (Option.some.inj h).symm⟩
end
end R
namespace R
open PySem L2
section
variable {σ : L2.St} {H H' : Hp} {Q : VK} {v x y z : V} {a b d : Int} {K : PySem.W.Frag} {p q t : Addr} {xs ys : List V} {D : Ends} {o : HO}
/-- what is to be shown of a loop over range(j) -/
def RngP (g : TG) (tb : TS) (D : Ends) (σ : L2.St) : VK := fun x H1 => ∃ j : Int, [x] = [V.int j] ∧ -(2 ^ 62) ≤ j ∧ j < 2 ^ 62 ∧ ∃ W : Nat → Nat → L2.St → Hp → Prop, (∃ m, W 0 m σ H1) ∧ ∀ i m σ H, W i m σ H →
  ((Itr 0 j.toNat).stop i H ∧ D.nx σ H) ∨ ((Itr 0 j.toNat).go i H ∧ ∃ N : L2.St → Hp → Prop, (∀ σ' H', N σ' H' → ∃ m', m' < m ∧ W (i + 1) m' σ' H') ∧ ∀ x H', (Itr 0 j.toNat).yld i H x H' → g x σ H' fun σ2 H2 => tb { D with nx := N, ct := N, bk := D.nx } σ2 H2)
theorem forR {ta : TE} {g : TG} {tb : TS} (h : ta σ H (RngP g tb D σ)) : tFor (iRng1 (tCons ta tNil)) g tb D σ H := h
theorem p62 : (2 : Int) ^ 62 = 4611686018427387904 := by decide
theorem rngP {g : TG} {tb : TS} (b1 : -4611686018427387904 ≤ a) (b2 : a < 4611686018427387904) (Pv : Nat → L2.St → Hp → Prop) (h0 : Pv 0 σ H)
    (hs : ∀ (i : Nat) σ H, (i : Int) < a → Pv i σ H → g (.int (i : Nat)) σ H fun σ2 H2 => tb { D with nx := Pv (i + 1), ct := Pv (i + 1), bk := D.nx } σ2 H2) (hd : ∀ σ H, Pv a.toNat σ H → D.nx σ H) : RngP g tb D σ (.int a) H :=
  ⟨a, rfl, by rw [p62]; exact b1, by rw [p62]; exact b2, for_range Pv h0 (fun i σ H hi p => by
    have z : (0 : Int) + ((i : Nat) : Int) = ((i : Nat) : Int) := Int.zero_add _
    rw [z]; exact hs i σ H (by omega) p) hd⟩
/-- a tuple is no list -/
theorem sqtB (e : ExB p H H') (hp : H p = some (.lst ys)) (h : SqT K H t xs) : SqT K H' t xs := by
  rcases h with (h | ⟨z, h⟩) | h
  · exact .inl (.inl (e _ _ (fun q => by subst q; rw [hp] at h; cases h) h))
  · exact .inl (.inr ⟨z, e _ _ (fun q => by subst q; rw [hp] at h; cases h) h⟩)
  · exact .inr h
theorem ExB.l (e : ExB p H H') (n : q ≠ p) (h : SqL K H q xs) : SqL K H' q xs := by
  rcases h with (h | ⟨z, h⟩) | h
  · exact .inl (.inl (e _ _ n h))
  · exact .inl (.inr ⟨z, e _ _ n h⟩)
  · exact .inr h
theorem ExB.free (e : ExB p H H') (n : q ≠ p) (h : H' q = none) : H q = none := by
  cases h2 : H q with
  | none => rfl
  | some o => rw [e q o n h2] at h; cases h
/-- p is new since H0 -/
theorem Ex.trB {H0 : Hp} (e : Ex H0 H) (n : H0 p = none) (f : ExB p H H') : Ex H0 H' := fun b o h => f b o (ne_of_none h n) (e b o h)
theorem ne_of_some (h : H p = some o) (n : H q = none) : q ≠ p := fun e => by subst e; rw [h] at n; cases n
end
end R
namespace R
open PySem L2
theorem tyLA {K : PySem.W.Frag} {H : Hp} {p : Addr} {xs : List V} {B : Prop} (h : SqL K H p xs) (q : B) : tyV K "list" (.ref p) H ∧ B := ⟨tyL h, q⟩
end R
namespace R
theorem iteTr {c : Bool} {A B : Prop} (e : c = true) (h : A) : if c = true then A else B := by rw [if_pos e]; exact h
theorem iteFr {c : Bool} {A B : Prop} (e : c = false) (h : B) : if c = true then A else B := by rw [if_neg (by rw [e]; decide)]; exact h
end R
namespace R
open PySem L2
theorem listK {K : PySem.W.Frag} {l : Bool} {H : Hp} {p : Addr} {xs : List V} {Q : VK} (h1 : SqK K l H p xs) (h : ∀ l, H l = none → Q (.ref l) (upd H l (.lst xs))) : U.rList K [.ref p] H Q := by
  cases l with
  | true => exact listL h1 h
  | false => exact listT h1 h
end R
namespace R
open PySem L2
section
variable {σ : L2.St} {H : Hp} {K : PySem.W.Frag} {a b : Addr} {xs ys : List V} {D : Ends} {g : TG} {tb : TS}
/-- for x, y in zip(name, name) -/
theorem forZip {l : Bool} {i j : Nat} (hv : σ[i]? = some (some (.ref a))) (hv2 : σ[j]? = some (some (.ref b))) (h1 : SqK K l H a xs) (h2 : SqK K l H b ys) (hl : xs.length = ys.length) (Pv : Nat → L2.St → Hp → Prop) (h0 : Pv 0 σ H) (hq : ∀ i σ H, Pv i σ H → SqK K l H a xs ∧ SqK K l H b ys)
    (hs : ∀ (i : Nat) (x y : V) (T : Addr) (σ : L2.St) (H : Hp), xs[i]? = some x → ys[i]? = some y → Pv i σ H → H T = none → g (.ref T) σ (upd H T (.tup [x, y])) fun σ2 H2 => tb { D with nx := Pv (i + 1), ct := Pv (i + 1), bk := D.nx } σ2 H2) (hd : ∀ σ H, Pv xs.length σ H → D.nx σ H) :
    tFor (RZ.iZipA K (tCons (tVar i) (tCons (tVar j) tNil))) g tb D σ H := by
  refine ⟨_, hv, _, hv2, a, b, xs, ys, rfl, ?_⟩
  cases l with
  | true => exact .inl ⟨h1, h2, RZ.for_zipL hl Pv h0 hq hs hd⟩
  | false => exact .inr ⟨h1, h2, RZ.for_zipT hl Pv h0 hq hs hd⟩
theorem lnK {l : Bool} {Q : VK} (h1 : SqK K l H a xs) (h : Q (.int xs.length) H) : U.rLen K [.ref a] H Q := by
  cases l with
  | true => exact lnL h1 h
  | false => exact lnT h1 h
end
end R
namespace R
open PySem L2
section
variable {σ : L2.St} {H : Hp} {K : PySem.W.Frag} {a b : Addr} {xs ys : List V} {D : Ends} {g : TG} {tb : TS} {te : TE}
/-- what is to be shown of a loop over a tuple, over a list -/
def TupP (K : PySem.W.Frag) (g : TG) (tb : TS) (D : Ends) (σ : L2.St) : VK := fun x H1 => ∃ a, x = .ref a ∧ (∃ xs, SqT K H1 a xs) ∧ ∃ W : Nat → Nat → L2.St → Hp → Prop, (∃ m, W 0 m σ H1) ∧ ∀ i m σ H, W i m σ H →
  ((Itt K a).stop i H ∧ D.nx σ H) ∨ ((Itt K a).go i H ∧ ∃ N : L2.St → Hp → Prop, (∀ σ' H', N σ' H' → ∃ m', m' < m ∧ W (i + 1) m' σ' H') ∧ ∀ x H', (Itt K a).yld i H x H' → g x σ H' fun σ2 H2 => tb { D with nx := N, ct := N, bk := D.nx } σ2 H2)
def LstP (K : PySem.W.Frag) (g : TG) (tb : TS) (D : Ends) (σ : L2.St) : VK := fun x H1 => ∃ a, x = .ref a ∧ (∃ xs, SqL K H1 a xs) ∧ ∃ W : Nat → Nat → L2.St → Hp → Prop, (∃ m, W 0 m σ H1) ∧ ∀ i m σ H, W i m σ H →
  ((Itl K a).stop i H ∧ D.nx σ H) ∨ ((Itl K a).go i H ∧ ∃ N : L2.St → Hp → Prop, (∀ σ' H', N σ' H' → ∃ m', m' < m ∧ W (i + 1) m' σ' H') ∧ ∀ x H', (Itl K a).yld i H x H' → g x σ H' fun σ2 H2 => tb { D with nx := N, ct := N, bk := D.nx } σ2 H2)
theorem forTe (h : te σ H (TupP K g tb D σ)) : tFor (U.iSeq K te) g tb D σ H := .inr (.inl h)
theorem forLe (h : te σ H (LstP K g tb D σ)) : tFor (U.iSeq K te) g tb D σ H := .inl h
theorem tupP (hq : SqT K H a xs) (Pv : Nat → L2.St → Hp → Prop) (h0 : Pv 0 σ H) (hl : ∀ i σ H, i ≤ xs.length → Pv i σ H → SqT K H a xs)
    (hs : ∀ i x σ H, xs[i]? = some x → Pv i σ H → g x σ H fun σ2 H2 => tb { D with nx := Pv (i + 1), ct := Pv (i + 1), bk := D.nx } σ2 H2) (hd : ∀ σ H, Pv xs.length σ H → D.nx σ H) : TupP K g tb D σ (.ref a) H :=
  ⟨a, rfl, ⟨xs, hq⟩, for_tup Pv h0 hl hs hd⟩
theorem lstP (hq : SqL K H a xs) (Pv : Nat → L2.St → Hp → Prop) (h0 : Pv 0 σ H) (hl : ∀ i σ H, i ≤ xs.length → Pv i σ H → SqL K H a xs)
    (hs : ∀ i x σ H, xs[i]? = some x → Pv i σ H → g x σ H fun σ2 H2 => tb { D with nx := Pv (i + 1), ct := Pv (i + 1), bk := D.nx } σ2 H2) (hd : ∀ σ H, Pv xs.length σ H → D.nx σ H) : LstP K g tb D σ (.ref a) H :=
  ⟨a, rfl, ⟨xs, hq⟩, for_list Pv h0 hl hs hd⟩
end
end R
namespace R
open PySem L2
section
variable {σ σ2 : L2.St} {H : Hp} {K : PySem.W.Frag} {a b : Addr} {xs ys : List V} {g : TG} {tt : TT} {te : TE} {Q : VK} {vs : List Nat}
/-- [e for x in name] over a list or a tuple -/
theorem lcV {l : Bool} {i : Nat} (hv : σ[i]? = some (some (.ref a))) (hq : SqK K l H a xs) (Pv : Addr → Nat → Hp → Prop) (h0 : ∀ D, H D = none → Pv D 0 (upd H D (.lst []))) (hl : ∀ D i H, Pv D i H → SqK K l H a xs)
    (hs : ∀ D i x H, xs[i]? = some x → Pv D i H → g x (wipe σ vs) H fun σ2 H2 => wipe σ2 vs = wipe σ vs ∧ tt σ2 H2 fun b H3 =>
      if b = true then te σ2 H3 fun y H4 => ∃ acc, H4 D = some (.lst acc) ∧ acc.length < sizeLine ∧ Pv D (i + 1) (upd H4 D (.lst (acc ++ [y]))) else Pv D (i + 1) H3)
    (hd : ∀ D H, Pv D xs.length H → Q (.ref D) H) : tLc (U.iSeq K (tVar i)) g tt te vs σ H Q := by
  have key : ∀ J : It, (∀ H, ∀ D i, Pv D i H → i < xs.length → J.go i H) → (∀ H D, Pv D xs.length H → J.stop xs.length H) → (∀ D i H x H', Pv D i H → i < xs.length → J.yld i H x H' → xs[i]? = some x ∧ H' = H) →
      ∀ D, H D = none → ∃ W : Nat → Nat → Hp → Prop, (∃ m, W 0 m (upd H D (.lst []))) ∧ ∀ i m H, W i m H →
        (J.stop i H ∧ Q (.ref D) H) ∨ (J.go i H ∧ ∃ Nx : Hp → Prop, (∀ H', Nx H' → ∃ m', m' < m ∧ W (i + 1) m' H') ∧ ∀ x H', J.yld i H x H' → g x (wipe σ vs) H' fun σ2 H2 => wipe σ2 vs = wipe σ vs ∧ tt σ2 H2 fun b H3 =>
          if b = true then te σ2 H3 fun y H4 => ∃ acc, H4 D = some (.lst acc) ∧ acc.length < sizeLine ∧ Nx (upd H4 D (.lst (acc ++ [y]))) else Nx H3) := by
    intro J j1 j2 j3 D nD
    refine ⟨fun i m H => m = xs.length - i ∧ i ≤ xs.length ∧ Pv D i H, ⟨xs.length, by simp, Nat.zero_le _, h0 D nD⟩, ?_⟩
    rintro i m H ⟨rfl, hi, p⟩
    by_cases hlt : i < xs.length
    · refine .inr ⟨j1 H D i p hlt, Pv D (i + 1), fun H' p' => ⟨xs.length - (i + 1), by omega, rfl, hlt, p'⟩, fun x H' y => ?_⟩
      obtain ⟨hx, rfl⟩ := j3 D i H x H' p hlt y
      exact hs D i x H' hx p
    · have e : i = xs.length := by omega
      subst e
      exact .inl ⟨j2 H D p, hd D H p⟩
  cases l with
  | true =>
    refine .inl ⟨_, hv, a, rfl, ⟨xs, hq⟩, key (Itl K a) (fun H D i p hlt => ?_) (fun H D p => ?_) (fun D i H x H' p hlt y => ?_)⟩
    · exact ⟨xs, xs[i], hl D i H p, List.getElem?_eq_getElem hlt⟩
    · exact ⟨xs, hl D _ H p, Nat.le_refl _⟩
    · exact ⟨y.2 xs (hl D i H p), y.1⟩
  | false =>
    refine .inr (.inl ⟨_, hv, a, rfl, ⟨xs, hq⟩, key (Itt K a) (fun H D i p hlt => ?_) (fun H D p => ?_) (fun D i H x H' p hlt y => ?_)⟩)
    · exact ⟨xs, xs[i], hl D i H p, List.getElem?_eq_getElem hlt⟩
    · exact ⟨xs, hl D _ H p, Nat.le_refl _⟩
    · exact ⟨y.2 xs (hl D i H p), y.1⟩
theorem wip {P : Prop} (h : wipe σ2 vs = wipe σ vs) (q : P) : wipe σ2 vs = wipe σ vs ∧ P := ⟨h, q⟩
theorem yes {Q : Bool → Hp → Prop} (q : Q true H) : tYes σ H Q := q
theorem lcAdd {y : V} {P : Hp → Prop} (h : H a = some (.lst xs)) (l : xs.length < sizeLine) (q : P (upd H a (.lst (xs ++ [y])))) : ∃ acc, H a = some (.lst acc) ∧ acc.length < sizeLine ∧ P (upd H a (.lst (acc ++ [y]))) := ⟨xs, h, l, q⟩
end
end R
namespace R
open PySem L2
section
variable {σ : L2.St} {H : Hp} {K : PySem.W.Frag} {a b : Addr} {xs ys : List V} {g : TG} {tt : TT} {te te2 : TE} {Q : VK} {vs : List Nat} {j : Int}
/-- what is to be shown of a comprehension over J -/
def LcP (J : It) (g : TG) (tt : TT) (te : TE) (vs : List Nat) (Q : VK) (σ : L2.St) (H1 : Hp) : Prop := ∀ D, H1 D = none → ∃ W : Nat → Nat → Hp → Prop, (∃ m, W 0 m (upd H1 D (.lst []))) ∧ ∀ i m H, W i m H →
  (J.stop i H ∧ Q (.ref D) H) ∨ (J.go i H ∧ ∃ Nx : Hp → Prop, (∀ H', Nx H' → ∃ m', m' < m ∧ W (i + 1) m' H') ∧ ∀ x H', J.yld i H x H' → g x (wipe σ vs) H' fun σ2 H2 => wipe σ2 vs = wipe σ vs ∧ tt σ2 H2 fun b H3 =>
    if b = true then te σ2 H3 fun y H4 => ∃ acc, H4 D = some (.lst acc) ∧ acc.length < sizeLine ∧ Nx (upd H4 D (.lst (acc ++ [y]))) else Nx H3)
theorem lcP_mk {J : It} (n : Nat) (Pv : Addr → Nat → Hp → Prop) (h0 : ∀ D, H D = none → Pv D 0 (upd H D (.lst []))) (j1 : ∀ D i H, Pv D i H → i < n → J.go i H) (j2 : ∀ D H, Pv D n H → J.stop n H)
    (j3 : ∀ D i H x H', Pv D i H → i < n → J.yld i H x H' → g x (wipe σ vs) H' fun σ2 H2 => wipe σ2 vs = wipe σ vs ∧ tt σ2 H2 fun b H3 =>
      if b = true then te σ2 H3 fun y H4 => ∃ acc, H4 D = some (.lst acc) ∧ acc.length < sizeLine ∧ Pv D (i + 1) (upd H4 D (.lst (acc ++ [y]))) else Pv D (i + 1) H3)
    (hd : ∀ D H, Pv D n H → Q (.ref D) H) : LcP J g tt te vs Q σ H := by
  intro D nD
  refine ⟨fun i m H => m = n - i ∧ i ≤ n ∧ Pv D i H, ⟨n, by simp, Nat.zero_le _, h0 D nD⟩, ?_⟩
  rintro i m H ⟨rfl, hi, p⟩
  by_cases hlt : i < n
  · exact .inr ⟨j1 D i H p hlt, Pv D (i + 1), fun H' p' => ⟨n - (i + 1), by omega, rfl, hlt, p'⟩, fun x H' y => j3 D i H x H' p hlt y⟩
  · have e : i = n := by omega
    subst e
    exact .inl ⟨j2 D H p, hd D H p⟩
def LcLP (K : PySem.W.Frag) (g : TG) (tt : TT) (te : TE) (vs : List Nat) (Q : VK) (σ : L2.St) : VK := fun x H1 => ∃ a, x = .ref a ∧ (∃ xs, SqL K H1 a xs) ∧ LcP (Itl K a) g tt te vs Q σ H1
def LcRP (g : TG) (tt : TT) (te : TE) (vs : List Nat) (Q : VK) (σ : L2.St) : VK := fun x H1 => ∃ j : Int, [x] = [V.int j] ∧ -(2 ^ 62) ≤ j ∧ j < 2 ^ 62 ∧ LcP (Itr 0 j.toNat) g tt te vs Q σ H1
theorem lcLe (h : te2 σ H (LcLP K g tt te vs Q σ)) : tLc (U.iSeq K te2) g tt te vs σ H Q := .inl h
theorem lcR (h : te2 σ H (LcRP g tt te vs Q σ)) : tLc (iRng1 (tCons te2 tNil)) g tt te vs σ H Q := h
theorem lcLP (hq : SqL K H a xs) (Pv : Addr → Nat → Hp → Prop) (h0 : ∀ D, H D = none → Pv D 0 (upd H D (.lst []))) (hl : ∀ D i H, Pv D i H → SqL K H a xs)
    (hs : ∀ D i x H, xs[i]? = some x → Pv D i H → g x (wipe σ vs) H fun σ2 H2 => wipe σ2 vs = wipe σ vs ∧ tt σ2 H2 fun b H3 =>
      if b = true then te σ2 H3 fun y H4 => ∃ acc, H4 D = some (.lst acc) ∧ acc.length < sizeLine ∧ Pv D (i + 1) (upd H4 D (.lst (acc ++ [y]))) else Pv D (i + 1) H3)
    (hd : ∀ D H, Pv D xs.length H → Q (.ref D) H) : LcLP K g tt te vs Q σ (.ref a) H :=
  ⟨a, rfl, ⟨xs, hq⟩, lcP_mk xs.length Pv h0 (fun D i H p hlt => ⟨xs, xs[i], hl D i H p, List.getElem?_eq_getElem hlt⟩) (fun D H p => ⟨xs, hl D _ H p, Nat.le_refl _⟩)
    (fun D i H x H' p _ y => by
      obtain ⟨rfl, y2⟩ := y
      exact hs D i x H' (y2 xs (hl D i H' p)) p) hd⟩
theorem lcRP (b1 : -4611686018427387904 ≤ j) (b2 : j < 4611686018427387904) (Pv : Addr → Nat → Hp → Prop) (h0 : ∀ D, H D = none → Pv D 0 (upd H D (.lst [])))
    (hs : ∀ D (i : Nat) H, (i : Int) < j → Pv D i H → g (.int (i : Nat)) (wipe σ vs) H fun σ2 H2 => wipe σ2 vs = wipe σ vs ∧ tt σ2 H2 fun b H3 =>
      if b = true then te σ2 H3 fun y H4 => ∃ acc, H4 D = some (.lst acc) ∧ acc.length < sizeLine ∧ Pv D (i + 1) (upd H4 D (.lst (acc ++ [y]))) else Pv D (i + 1) H3)
    (hd : ∀ D H, Pv D j.toNat H → Q (.ref D) H) : LcRP g tt te vs Q σ (.int j) H :=
  ⟨j, rfl, by rw [p62]; exact b1, by rw [p62]; exact b2, lcP_mk j.toNat Pv h0 (fun D i H _ hlt => hlt) (fun D H _ => Nat.le_refl _)
    (fun D i H x H' p hlt y => by
      obtain ⟨rfl, rfl⟩ := y
      have z : (0 : Int) + ((i : Nat) : Int) = ((i : Nat) : Int) := Int.zero_add _
      rw [z]
      exact hs D i H' (by omega) p) hd⟩
/-- name[lo:hi] of a list -/
theorem slL {lo hi : Option Int} (h : SqL K H a xs) (q : ∀ p, H p = none → Q (.ref p) (upd H p (.lst (cutV xs lo hi)))) : U.rSlU K (.ref a) lo hi H Q := .inl ⟨a, xs, rfl, h, q⟩
theorem exI2 {P : Int → Prop} (q : P j) : ∃ k, V.int j = .int k ∧ P k := ⟨j, rfl, q⟩
theorem sum {ns : List Int} (h : SqL K H a (ns.map V.int)) (q : Q (.int ns.sum) H) : rSum K [.ref a] H Q := ⟨a, ns, rfl, h, q⟩
theorem cut_to {k : Nat} (h : k ≤ xs.length) : cutV xs none (some (k : Int)) = xs.take k := by
  unfold cutV
  rw [HT.sIx_none, HT.sIx_nat, Nat.min_eq_left h, List.drop_zero, Nat.sub_zero]
theorem cut_mid {m k : Nat} (h : k ≤ xs.length) (hm : m ≤ k) : cutV xs (some (m : Int)) (some (k : Int)) = (xs.take k).drop m := by
  unfold cutV
  rw [HT.sIx_nat, HT.sIx_nat, Nat.min_eq_left h, Nat.min_eq_left (by omega), List.drop_take]
end
end R
namespace R
open PySem L2
theorem chain3 {σ : L2.St} {H : Hp} {Q : VK} {r1 r2 r3 : R2} {ta tb tc td : TE} (h : ta σ H fun x H1 => tb σ H1 fun y H2 => r1 x y H2 fun z H3 => ∃ k, z = .bl k ∧
  (if k = true then tc σ H3 fun w H4 => r2 y w H4 fun z2 H5 => ∃ k2, z2 = .bl k2 ∧ (if k2 = true then td σ H5 fun u H6 => r3 w u H6 Q else Q (.bl false) H5) else Q (.bl false) H3)) : U.tChain3 r1 r2 r3 ta tb tc td σ H Q := h
end R

namespace U
open PySem PySem.Spec PyProof.Rows L2
/-- the end, for a def that may let exceptions out in a world -/
theorem walk_ofW {l : PySem.W.OpenLaw} {n k : Nat} {q : Program} {loose : List Str} {XP : (Str → Option Value) → Heap → Prop} {YP : World → Heap → Prop} {d : DefRec} {CX : World → CXT} {x : Str}
    (hn : l.most = some n) (hn2 : n ≤ sizeLine) (hdf : d.params.defaults = []) (hr : Room k callerA)
    (F : ∀ (w : World) (mg : Str → Option Value) (fa : Addr) (h : Heap), YP w h → h.Ns mainGlobals mg → mg d.name = some (.ref fa) →
      ∃ (K : PySem.W.Frag) (fd : FuncData) (sp : Sp), K.In h ∧ (∀ (s : Shared) (u : Value), BindsTo s fd ⟨[u], []⟩ [(x, u)]) ∧
        (∀ (H : Hp) (a : Addr) (ns : List Int), ns.length ≤ n → Only H → SqL K H a (ns.map V.int) → sp [.ref a] H (fun v _ => v = .bl true) fun _ _ _ => False) ∧
        ∀ base : Heap, K.In base → base.Ns mainGlobals mg → FnOk l.prog w K mg base (CX w) k fa fd [x] sp)
    (hCX : ∀ (w : World) (H : Hp) (s : Shared) (e : Value) (s' : Shared), CX w [] H s (fun _ _ _ => False) e s' → False) :
    PySem.W.WalkO q loose XP YP l.row.toRowW d [] (fun f vs => PySem.call f vs) := by
  refine Att.attach_call hn hdf fun w s₀ s₁ mg mb fa o pm cd doc a vs ns G Y ho hd hcd hmg hobj hints hlen hg => ?_
  obtain ⟨K, fd, sp, KX, hb, hsp, hF⟩ := F w mg fa _ Y G.T.g hmg
  exact law_call KX G.T.g G.T.b G.T.builtins G.T.nolimit hg hobj hints (Nat.le_trans hlen hn2) hr hF hb (fun H hO hS => hsp H a ns hlen hO hS) fun H e s' => hCX w H s₁ e s'
theorem cx_no {P : Program} {w : World} (H : Hp) (s : Shared) (e : Value) (s' : Shared) (h : L2.CX P w [] H s (fun _ _ _ => False) e s') : False := by
  obtain ⟨_, _, _, _, _, _, _, _, _, _, _, _, h⟩ := h
  exact h
end U
namespace U
open PySem PySem.Spec PyProof.Rows L2
/-- x, y, .. = a tuple or a list -/
def gUn (K : PySem.W.Frag) (n : Nat) (t : TGs) : TG := fun v σ H Q => gTup K n t v σ H Q ∨ gLst K n t v σ H Q
theorem pg_un {X : Cx} {es : List Expr} {k : Nat} {t : TGs} {n : Nat} {pos : Pos} (hc : X.calm = true) (h : PGs X es t)
    (hn : (assignEach es X.env).length = n := by rfl) (hst : (assignEach es X.env).findIdx? (·.1) = none := by rfl) : PG X (.Tuple es k pos) (gUn X.K n t) := by
  refine ⟨fun pins s σ H v u Q I r hw => ?_⟩
  rcases hw with hw | hw
  · exact (pg_tup hc h hn hst).run pins s σ H v u Q I r hw
  · exact (pg_lst hc h hn hst).run pins s σ H v u Q I r hw
end U

namespace Xn
open PySem PySem.Spec PyProof.Rows L2
/-! ### several clauses 'except C as n' -/
def wMas (K : PySem.W.Frag) (Wout : WX) (D : Ends) : List (Value × Nat × (Addr → Value → Option Addr → TS)) → WX
  | [] => Wout
  | (c, i, ts) :: r => wAs K c i ts (wMas K Wout D r) D
inductive HasOk (X : Cx) : List ExceptHandler → List (Value × Nat × (Addr → Value → Option Addr → TS)) → Prop
  | nil : HasOk X [] []
  | cons {x n : Str} {c : Value} {i : Nat} {ts : Addr → Value → Option Addr → TS} {b₀ : Stmt} {suite : List Stmt} {np pos' : Pos} {hds : List ExceptHandler} {l : List (Value × Nat × (Addr → Value → Option Addr → TS))} (hi : X.N[i]? = some n) (hln : X.env.kindOf n = some .local) (hc : Names X x c)
      (hsu : ∀ (a : Addr) (oe : Obj) (cls : Value) (d : Option Addr) (pn : List (Addr × Obj)), Zc cls d oe → (∃ vs, oe.data = .fields vs) → PSs (X.suite a ((a, oe) :: pn)) (b₀ :: suite) (ts a cls d)) (r : HasOk X hds l) :
      HasOk X (.ExceptHandler (some (.Name x np)) (some n) (b₀ :: suite) pos' :: hds) ((c, i, ts) :: l)
section
variable {X : Cx} {body : List Stmt} {h₀ : ExceptHandler} {hds : List ExceptHandler} {l : List (Value × Nat × (Addr → Value → Option Addr → TS))} {pos : Pos} {tb : WX → TS} {Wout : WX}
theorem ps_try_mas (hs : X.stack = X.env :: X.outer) (hf : X.env.frame = some X.env.locals) (hN : X.N.Nodup) (tk : Takes X Wout)
    (hb : ∀ (W : WX) (pn : List (Addr × Obj)) (xe : Value → Shared → Prop), Takes (X.tr pn xe) W → PassesOwn (model X.prog X.w) X.A X.env xe → PSs (X.tr pn xe) body (tb W))
    (hh : HasOk X (h₀ :: hds) l) : PS X (.Try body (h₀ :: hds) [] [] pos) (fun D σ H => tb (wMas X.K Wout D l) D σ H) := by
  refine ⟨fun pins s σ H D I h => ?_⟩
  have ok := I.ok
  have hfr : X.A.frames = some (X.env :: X.outer) := by rw [ok.frames, hs]
  refine wpAny_Try_except ?_
  refine wpAny_mono ((hb (wMas X.K Wout D l) (X.pn ++ pins) (fun e s₁ => wpAny (model X.prog X.w) X.A (noteFrame e X.env) (fun _ s₂ => wpAny (model X.prog X.w) X.A (setFlight e none) (fun _ s₃ =>
    wpAny (model X.prog X.w) X.A (handleBy e X.env (h₀ :: hds)) (SP X pins D) X.xe s₃) X.xe s₂) X.xe s₁) (fun u s' xx => ?_) PassesOwn.looking).run [] s σ H D (I.toTry _) h) (fun f s1 hsp => ?_) (fun e s1 he => he)
  · obtain ⟨a, B, sI, pins', σ', H', cls, d, rfl, J', nb, up, sky, na, os, ag, w⟩ := xx
    have J : Inv X pins σ' H' sI := J'.ofTry ok
    have sky' : Sky B (X.env :: X.outer) a (Zc cls d) X.env.locals s'.heap := by rw [← hs]; exact sky
    show wpAny (model X.prog X.w) X.A (noteFrame (.ref a) X.env) _ _ _
    refine Sky.land Zc.steady hfr hf sky' fun h3 fl3 up3 => ?_
    have J3 : Inv X pins σ' H' { s' with heap := h3 } := J.landed nb fl3.1 (up.trans up3) os ag
    obtain ⟨oe3, vs3, he3, hz3, hd3⟩ := fl3.there
    have notFr : ∀ {h : Heap} {o : Obj} {vs : Array Value}, h.FunFrames B (X.env :: X.outer) → h.get? a = some o → o.data = .fields vs → a ∉ frs (X.env :: X.outer) := fun {h o vs} ff e dd hm => by
      obtain ⟨_, o', e', hnf⟩ := ff.mem hm
      rw [e] at e'; cases e'
      exact hnf _ dd
    have nfr := notFr fl3.2.2.1 he3 hd3
    have nL : a ≠ X.env.locals := fun z => nfr (List.mem_filterMap.mpr ⟨X.env, List.mem_cons_self, by rw [hf, z]⟩)
    have nF : a ∉ X.fs := fun hm => by
      obtain ⟨e, he, q⟩ := List.mem_filterMap.mp hm
      exact nfr (List.mem_filterMap.mpr ⟨e, List.mem_cons_of_mem _ he, q⟩)
    have S3 := J3.suite he3 hd3 na nL nF
    have go : ∀ {hds' : List ExceptHandler} {l' : List (Value × Nat × (Addr → Value → Option Addr → TS))}, HasOk X hds' l' → wMas X.K Wout D l' cls d σ' H' →
        wpAny (model X.prog X.w) X.A (handleBy (.ref a) X.env hds') (SP X pins D) X.xe { s' with heap := h3 } := by
      intro hds' l' hk
      induction hk with
      | nil =>
        intro w
        refine wpAny_handleBy_nil ?_
        obtain ⟨k1, k2, k3, oe, vs, T, oT, ts', he, hz, hd, h1, hr⟩ := id fl3
        unfold PySem.passOn
        refine wpAny_bind (wpAny_field he hd h1 ?_)
        rw [if_neg (show ¬ ((Value.ref T == Value.none) = true) from by simp)]
        have fin : wpAny (model X.prog X.w) X.A (setFlight (.ref a) X.env.frame) (fun _ s4 => wpAny (model X.prog X.w) X.A (throw (.ref a) : Sem Flow) (SP X pins D) X.xe s4) X.xe { s' with heap := h3 } := by
          rw [hf]
          refine HandSPX.setFlight_upZ fl3 fun h4 hh4 up4 => wpAny_throw (tk _ _ ?_)
          exact ⟨a, B, sI, pins, σ', H', cls, d, rfl, J, nb, (up.trans up3).trans up4, .inr (.inr (by rw [hs]; exact hh4)), na, os, ag, w⟩
        first
          | exact wpAny_bind (wpAny_pure (wpAny_bind fin))
          | exact wpAny_bind fin
      | @cons x n c i ts b₀ suite np pos' hds2 l2 hi hln hc hsu r ih =>
        intro w
        obtain ⟨b, hb1, hyes, hno⟩ := w
        refine wpAny_handleBy_cons (codeAny_handlers_test ?_) (by intro q; cases q)
        have LT : PySem.W.Looks (model X.prog X.w) h3 (typeOf (.ref a)) cls := fun A Q E s k q => wpAny_typeOf_ref (k _ _ he3) (by rw [hz3.1]; exact q)
        have LM := PySem.W.exm_one (M := model X.prog X.w) (J3.kIn) LT hb1
        have test : ∀ {Q : Value → Shared → Prop} {E : Value → Shared → Prop}, Q c { s' with heap := h3 } → wpAny (model X.prog X.w) (X.A.mark (some (.ref a))) (eval (.Name x np) X.env) Q E { s' with heap := h3 } := fun {Q E} q => by
          obtain ⟨hg, hdbg, hm | ⟨hm, hv, hnn⟩⟩ := hc
          · exact ld_glob (X := X.suite a ((a, oe3) :: (X.pn ++ pins))) S3 hg hm q hdbg
          · exact ld_blt (X := X.suite a ((a, oe3) :: (X.pn ++ pins))) S3 hg hm hv q hnn hdbg
        refine test (LM.here ?_)
        cases b with
        | true =>
          refine codeAny_handlers_suite_as ?_
          refine HandSPX.lands_againZ fl3 fun h4 fl4 up4 => ?_
          have J4 : Inv X pins σ' H' { s' with heap := h4 } := J.landed nb fl4.1 ((up.trans up3).trans up4) os ag
          obtain ⟨oe4, vs4, he4, hz4, hd4⟩ := fl4.there
          have S4 := J4.suite he4 hd4 na nL nF
          refine store_ok (X := X.suite a ((a, oe4) :: (X.pn ++ pins))) (v := .ref a) S4 hN hi (Or.inl hln) rfl (fun s5 S5 => ?_) (.inr hln)
          refine wpAny_mono ((hsu a oe4 cls d (X.pn ++ pins) hz4 ⟨_, hd4⟩).run [] s5 _ H' _ S5 (hyes rfl a na)) (fun f s6 hsp => ?_) (fun _ _ z => False.elim z)
          have end_ : ∀ {σ6 : L2.St} {H6 : Hp} {Q : Shared → Prop}, Inv (X.suite a ((a, oe4) :: (X.pn ++ pins))) [] σ6 H6 s6 → (∀ s7, Inv X pins (σ6.set i none) H6 s7 → Q s7) →
              wpAny (model X.prog X.w) X.A (do bindName X.env n .none; unbindBehindTheSuite X.env n pos') (fun _ s7 => Q s7) X.xe s6 := fun {σ6 H6 Q} S6 hq => gone_ok (S6.unsuite ok) hN hi hln hq
          cases f with
          | next =>
            obtain ⟨σ6, H6, S6, q6⟩ := hsp
            exact end_ S6 fun s7 J7 => ⟨_, _, J7, q6⟩
          | brk =>
            obtain ⟨σ6, H6, S6, q6⟩ := hsp
            exact end_ S6 fun s7 J7 => ⟨_, _, J7, q6⟩
          | cont =>
            obtain ⟨σ6, H6, S6, q6⟩ := hsp
            exact end_ S6 fun s7 J7 => ⟨_, _, J7, q6⟩
          | ret u =>
            obtain ⟨v6, σ6, H6, S6, r6, q6⟩ := hsp
            exact end_ S6 fun s7 J7 => ⟨_, _, _, J7, r6, q6⟩
        | false =>
          show wpAny _ X.A (handleBy (.ref a) X.env hds2) _ _ _
          exact ih (hno rfl)
    exact go hh w
  · cases f with
    | next =>
      obtain ⟨σ', H', J', q⟩ := hsp
      exact wpAny_execs_nil ⟨σ', H', J'.ofTry ok, q⟩
    | brk =>
      obtain ⟨σ', H', J', q⟩ := hsp
      exact ⟨σ', H', J'.ofTry ok, q⟩
    | cont =>
      obtain ⟨σ', H', J', q⟩ := hsp
      exact ⟨σ', H', J'.ofTry ok, q⟩
    | ret u =>
      obtain ⟨v, σ', H', J', r, q⟩ := hsp
      exact ⟨v, σ', H', J'.ofTry ok, r, q⟩
end
end Xn

namespace Xn
open PySem PySem.Spec PyProof.Rows L2
/-! ### isinstance of a caught error that has fields -/
def rIsX (K : PySem.W.Frag) (a : Addr) (cls : Value) (d : Option Addr) : List V → Hp → VK → Prop := fun xs H Q => ∃ (D dd : Addr) (fs : List (Str × V)) (c : V) (cv : Value) (b : Bool), cls = .ref D ∧ d = some dd ∧ ExcC K D ∧ xs = [.ref a, c] ∧ (∀ u, RelV c u → u = cv) ∧ PySem.W.kitOne K (.ref D) cv = some b ∧ H dd = some (.xd fs) ∧ Q (.bl b) H
theorem call_isX {X : Cx} {a : Addr} {oe : Obj} {cls : Value} {d : Option Addr} {pn : List (Addr × Obj)} (hz : Zc cls d oe) (hf : ∃ vs, oe.data = .fields vs) : CallR (X.suite a ((a, oe) :: pn)) (.builtin "isinstance") (rIsX X.K a cls d) := by
  intro pins s σ H xs us Q I r h
  obtain ⟨D, dd, fs, c, cv, b, ecls, ed, C, rfl, hcv, e, hx, q⟩ := h
  subst ecls ed
  cases r with
  | cons rx rr =>
    cases rr with
    | cons rt rr =>
      cases rr
      cases rx
      have ec := hcv _ rt
      subst ec
      obtain ⟨hget, _⟩ := I.pin (a, oe) (List.mem_append.mpr (.inl List.mem_cons_self))
      obtain ⟨vs, hv⟩ := hf
      have hok : ObjOk X.prog X.w H s.heap dd (.xd fs) := I.hok dd _ hx
      obtain ⟨mA, hns, hr⟩ := hok
      obtain ⟨od, ho, hl⟩ := lookIn_ns hns
      have J : PySem.W.InstAt s.heap a oe D (some od) := ⟨hget, hz.1, by unfold PySem.W.notCls; rw [hv] <;> rfl, by rw [hz.2]; exact ho⟩
      obtain ⟨cdD, hcD, _⟩ := PySem.W.any_some C.hd
      exact PySem.W.kia_one (PySem.W.kitx_exc (by rw [hcD]; rfl) C.hg C.hk C.hs C.ha C.hn C.ht C.hm) I.kIn J e (fun z => nomatch z) fun tk => ⟨.bl b, H, I.kept (t' := tk) fun _ _ z => z, rfl, q⟩
/-! ### what the written part says of an own exception class -/
def oexB (K : PySem.W.Frag) (C : Addr) : Bool := (match K.lookup C with
  | some ⟨.type "type", _, .cls cd, sl⟩ => (match cd.mro, sl.toList with
    | .ref C' :: bm, [_, _, _, _, some (.builtin n), _] => C' == C && n == "ValueError.__new__" && !cd.hasDel && cd.hasDict && PySem.HandSPX.refsVE bm
    | _, _ => false)
  | _ => false) && (decide (PySem.W.findIn K (.ref C) "__setattr__" = some (some (.builtin "object.__setattr__"))) && (decide (PySem.W.subIn K (.ref C) (.type "BaseException") = some true) && (decide (PySem.W.typeIn K (.ref C) = some (.type "type")) && PySem.W.keepIn K (.ref C))))
theorem oexB_ok {K : PySem.W.Frag} {C : Addr} (h : oexB K C = true) : OexC K C := by
  obtain ⟨h1, h⟩ := Bool.and_eq_true_iff.mp h
  obtain ⟨h2, h⟩ := Bool.and_eq_true_iff.mp h
  obtain ⟨h3, h⟩ := Bool.and_eq_true_iff.mp h
  obtain ⟨h4, h5⟩ := Bool.and_eq_true_iff.mp h
  refine ⟨?_, of_decide_eq_true h2, of_decide_eq_true h3, of_decide_eq_true h4, h5⟩
  split at h1
  · rename_i dd cd sl ho
    split at h1
    · rename_i C' bm k0 k1 k2 k3 n k5 hm hs
      simp only [Bool.and_eq_true, beq_iff_eq, Bool.not_eq_true'] at h1
      obtain ⟨⟨⟨⟨rfl, rfl⟩, hdel⟩, hdct⟩, ht⟩ := h1
      obtain ⟨nm, bs, mro, ns, qn, hd, sn, sub, ab, col, del⟩ := cd
      dsimp only at hm hdel hdct
      subst hm hdel hdct
      have hsl : sl = #[k0, k1, k2, k3, some (.builtin "ValueError.__new__"), k5] := by
        obtain ⟨l⟩ := sl
        simp only at hs
        rw [hs]
      subst hsl
      exact ⟨nm, qn, ns, bs, bm, sn, sub, ab, col, dd, k0, k1, k2, k3, k5, ho, ht⟩
    · cases h1
  · cases h1
def excB (K : PySem.W.Frag) (D : Addr) : Bool := decide (PySem.W.findIn K (.ref D) "__getattribute__" = some (some (.builtin "BaseException.__getattribute__"))) && (decide (PySem.W.findIn K (.ref D) "__getattr__" = some none) && (decide (PySem.W.subIn K (.ref D) (.type "BaseException") = some true) && (PySem.W.hasDictIn K D && (decide (PySem.W.findIn K (.ref D) "__class__" = some (some (.builtin "object.__class__"))) &&
  (decide (PySem.W.specialIn K (.builtin "object.__class__") "__get__" = some (some (.builtin "getset_descriptor.__get__"))) && (decide (PySem.W.takesIn K (.builtin "object.__class__") = some true) && decide (PySem.W.mroIn K D (.type "object") = some true)))))))
theorem excB_ok {K : PySem.W.Frag} {D : Addr} (h : excB K D = true) : ExcC K D := by
  obtain ⟨h1, h⟩ := Bool.and_eq_true_iff.mp h
  obtain ⟨h2, h⟩ := Bool.and_eq_true_iff.mp h
  obtain ⟨h3, h⟩ := Bool.and_eq_true_iff.mp h
  obtain ⟨h4, h⟩ := Bool.and_eq_true_iff.mp h
  obtain ⟨h5, h⟩ := Bool.and_eq_true_iff.mp h
  obtain ⟨h6, h⟩ := Bool.and_eq_true_iff.mp h
  obtain ⟨h7, h8⟩ := Bool.and_eq_true_iff.mp h
  exact ⟨of_decide_eq_true h1, of_decide_eq_true h2, of_decide_eq_true h3, h4, of_decide_eq_true h5, of_decide_eq_true h6, of_decide_eq_true h7, of_decide_eq_true h8⟩
/-- an own error class C with its own __init__ at fI, that sets the field f -/
structure ClsF (K : PySem.W.Frag) (C fI : Addr) (f : Str) : Prop where
  o : OexC K C
  iC : PySem.W.findIn K (.ref C) "__init__" = some (some (.ref fI))
  tI : PySem.W.typeIn K (.ref fI) = some (.type "function")
  nf : PySem.W.findIn K (.ref C) f = some none
  xf : XfC K C
  ec : ExcC K C
def clsB (K : PySem.W.Frag) (C fI : Addr) (f : Str) : Bool := oexB K C && (decide (PySem.W.findIn K (.ref C) "__init__" = some (some (.ref fI))) && (decide (PySem.W.typeIn K (.ref fI) = some (.type "function")) && (decide (PySem.W.findIn K (.ref C) f = some none) && (xfB K C && excB K C))))
theorem clsB_ok {K : PySem.W.Frag} {C fI : Addr} {f : Str} (h : clsB K C fI f = true) : ClsF K C fI f := by
  obtain ⟨h1, h⟩ := Bool.and_eq_true_iff.mp h
  obtain ⟨h2, h⟩ := Bool.and_eq_true_iff.mp h
  obtain ⟨h3, h⟩ := Bool.and_eq_true_iff.mp h
  obtain ⟨h4, h⟩ := Bool.and_eq_true_iff.mp h
  obtain ⟨h5, h6⟩ := Bool.and_eq_true_iff.mp h
  exact ⟨oexB_ok h1, of_decide_eq_true h2, of_decide_eq_true h3, of_decide_eq_true h4, xfB_ok h5, excB_ok h6⟩
/-- the base J: J.__init__ is ValueError's -/
structure BaseF (K : PySem.W.Frag) (J : Addr) : Prop where
  sg : PySem.W.specialIn K (.ref J) "__getattribute__" = some (some (.builtin "type.__getattribute__"))
  rd : PySem.W.readsIn K J (.type "type") = true
  fc : PySem.W.findCls K (.ref J) (.type "type") "__init__" = some (.val (.builtin "ValueError.__init__"))
def baseB (K : PySem.W.Frag) (J : Addr) : Bool := decide (PySem.W.specialIn K (.ref J) "__getattribute__" = some (some (.builtin "type.__getattribute__"))) && (PySem.W.readsIn K J (.type "type") && (match PySem.W.findCls K (.ref J) (.type "type") "__init__" with
  | some (.val v) => decide (v = .builtin "ValueError.__init__")
  | _ => false))
theorem baseB_ok {K : PySem.W.Frag} {J : Addr} (h : baseB K J = true) : BaseF K J := by
  obtain ⟨h1, h⟩ := Bool.and_eq_true_iff.mp h
  obtain ⟨h2, h3⟩ := Bool.and_eq_true_iff.mp h
  refine ⟨of_decide_eq_true h1, h2, ?_⟩
  split at h3
  · rename_i v e
    rw [e, of_decide_eq_true h3]
  · cases h3
section
variable {X : Cx} {e : Expr} {es : List Expr} {ta : TA} {p1 p2 pos : Pos} {x : Str} {J : Addr}
/-- J.__init__(self, ..) -/
theorem pe_jinit {pl : Sem Bool} (B : BaseF X.K J) (hg : Gl X x) (hm : X.mg x = some (.ref J)) (ha : PA X (e :: es) ta)
    (hc : eval (.Call (.Attribute (.Name x p1) "__init__" p2) (e :: es) [] pos) X.env = (do
      let ov ← eval (.Name x p1) X.env
      standAt p2.atName
      let (f, first) ← holding [ov] (getMethod ov "__init__" pl)
      callWith pos f first (backTo pos (starEach (e :: es) X.env)) (backToKw pos (keywordEach [] X.env))) := by rfl)
    (hd : (x == ("__debug__" : Str)) = false := by decide) (he : starEach (e :: es) X.env = (false, eval e X.env) :: starEach es X.env := by rfl) (hpl : (backTo pos (starEach es X.env)).any (·.1) = false := by rfl) :
    PE X (.Call (.Attribute (.Name x p1) "__init__" p2) (e :: es) [] pos) (tVeI X.K ta) := by
  refine ⟨fun pins s σ H Q I h => ?_⟩
  refine PySem.W.methodCall_KW (ld_glob I hg hm ?_ hd) hc
  refine PySem.W.method_cls (I.ok.mod.kin.keeps fun b o e => (I.bs b o e).1) B.sg (PySem.W.cls_value (I.ok.mod.kin.keeps fun b o e => (I.bs b o e).1) B.rd B.fc (by decide +kernel) ?_)
  show wpAny _ _ (callWith pos (Value.builtin "ValueError.__init__") [] (backTo pos (starEach (e :: es) X.env)) []) _ _ _
  refine PyProof.Rows.callWith_method1 (thn (ha.run pos pins _ σ H _ (I.tok _) h) fun us s1 ⟨vs, H1, I1, r1, a, C, ws, ev, hl, T, ea, q⟩ => ?_) he hpl
  subst ev
  cases r1 with
  | @cons _ u0 _ ur ra rw' =>
    obtain rfl : u0 = Value.ref a := ra
    have hlen : ur.length ≤ sizeLine := by
      rw [← Paired.length rw', sizeLine_eq]
      omega
    exact oinit_ok T I1 ea hlen fun s' J => ⟨.non, H1, J, rfl, q⟩
end
/-! ### raise C(e) -/
/-- what an own __init__ does: it sets f -/
def spI (K : PySem.W.Frag) (f : Str) : Sp := fun vs H Q _ => ∃ (a C : Addr) (x : V), vs = [.ref a, x] ∧ OexC K C ∧ PySem.W.findIn K (.ref C) f = some none ∧ H a = some (exo a C none) ∧ ∀ dx, H dx = none → dx ≠ a → Q .non (upd (upd H dx (exd dx [(f, x)])) a (exo a C (some dx)))
/-- raise C(e), its __init__ sets f -/
def tRz (C : Addr) (f : Str) (E : XK) (ta : TA) : TS := fun _ σ H => ta σ H fun vs H1 => ∃ x, vs = [x] ∧ ∀ d H2, H1 d = none → R.Ex H1 H2 → H2 d = some (.xd [(f, x)]) → E (.ref C) (some d) H2
theorem rz_of {K : PySem.W.Frag} {C fI : Addr} {f : Str} {E : XK} {ta : TA} {σ : L2.St} {H : Hp} {W : WX} (F : ClsF K C fI f) (hW : ∀ d σ H, E (.ref C) d H → W (.ref C) d σ H) (mono : ∀ Q Q' : List V → Hp → Prop, (∀ v H, Q v H → Q' v H) → ta σ H Q → ta σ H Q')
    (h : ta σ H fun vs H1 => ∃ x, vs = [x] ∧ ∀ d H2, H1 d = none → R.Ex H1 H2 → H2 d = some (.xd [(f, x)]) → E (.ref C) (some d) H2) : tMkO C (spI K f) [] ta σ H (fun cls d H' => W cls d σ H') := by
  refine mono _ _ (fun vs H1 ⟨x, ev, q⟩ => ?_) h
  subst ev
  refine ⟨by show 1 ≤ 1000; decide, fun a na => ⟨a, C, x, rfl, F.o, F.nf, upd_same, fun dx ndx ne => ⟨rfl, dx, [(f, x)], upd_same, ?_, ?_, ?_⟩⟩⟩
  · rw [upd_ne ne, upd_same]
  · rw [upd_ne ne] at ndx; exact ndx
  · refine hW _ _ _ (q dx _ (by rw [upd_ne ne] at ndx; exact ndx) (fun b o hb => ?_) upd_same)
    have nb : b ≠ a := ne_of_none hb na
    have nd : b ≠ dx := ne_of_none hb (by rw [upd_ne ne] at ndx; exact ndx)
    rw [upd_ne nd, del_ne nb, upd_ne nb, upd_ne nd, upd_ne nb]
    exact hb
theorem PS.imp {X : Cx} {st : Stmt} {t t' : TS} (h : PS X st t) (k : ∀ D σ H, t' D σ H → t D σ H) : PS X st t' := ⟨fun pins s σ H D I q => h.run pins s σ H D I (k _ _ _ q)⟩
end Xn
namespace Xn
open PySem PySem.Spec PyProof.Rows L2
/-- self is set up: the base's __init__, then the field -/
theorem rd_init {K : PySem.W.Frag} {f msg n : Str} (vs : List V) (H : Hp) (Q : VK) (E : XK) (h : spI K f vs H Q E) :
    tSeq (tDrop (tVeI K (tCons (tVar 0) (tCons (tC (.str msg)) tNil)))) (tOst K f (tVar 0) (tVar 1)) { nx := fun _ H' => Q .non H', rt := Q } (start ["self", n] vs) H := by
  obtain ⟨a, C, x, rfl, T, nf, ha, k⟩ := h
  refine R.seq (R.drop ?_)
  refine R.cons (R.var rfl (R.cons (R.c (R.nil ?_))))
  refine ⟨a, C, [.str msg], rfl, by show 1 ≤ 1000; decide, T, ha, ?_⟩
  exact ⟨x, rfl, .ref a, rfl, a, C, rfl, T, nf, .inl ⟨ha, fun dx n ne => k dx n ne⟩⟩
theorem len_init {K : PySem.W.Frag} {f n : Str} (vs : List V) (H : Hp) (Q : VK) (E : XK) (h : spI K f vs H Q E) : vs.length = (["self", n] : List Str).length := by
  obtain ⟨a, C, x, rfl, _⟩ := h; rfl
/-- what is to be shown of raise C(x) -/
def RzP (K : PySem.W.Frag) (C : Addr) (f : Str) (E : XK) : List V → Hp → Prop := fun vs H1 => vs.length ≤ 1000 ∧ ∀ a, H1 a = none → spI K f (.ref a :: (vs ++ [])) (upd H1 a (exo a C none))
  (fun v H2 => v = .non ∧ ∃ (d : Addr) (fs : List (Str × V)), H2 a = some (exo a C (some d)) ∧ H2 d = some (exd d fs) ∧ H1 d = none ∧ E (.ref C) (some d) (upd (del H2 a) d (.xd fs))) (fun _ _ _ => False)
def tRaise (K : PySem.W.Frag) (C : Addr) (f : Str) (E : XK) (ta : TA) : TS := fun _ σ H => ta σ H (RzP K C f E)
theorem rzP {K : PySem.W.Frag} {C fI : Addr} {f : Str} {E : XK} {x : V} {H1 : Hp} (F : ClsF K C fI f) (q : ∀ d H2, H1 d = none → R.Ex H1 H2 → H2 d = some (.xd [(f, x)]) → E (.ref C) (some d) H2) : RzP K C f E [x] H1 := by
  refine ⟨by show 1 ≤ 1000; decide, fun a na => ⟨a, C, x, rfl, F.o, F.nf, upd_same, fun dx ndx ne => ⟨rfl, dx, [(f, x)], upd_same, ?_, ?_, ?_⟩⟩⟩
  · rw [upd_ne ne, upd_same]
  · rw [upd_ne ne] at ndx; exact ndx
  · rw [upd_ne ne] at ndx
    refine q dx _ ndx (fun b o hb => ?_) upd_same
    have nb : b ≠ a := ne_of_none hb na
    have nd : b ≠ dx := ne_of_none hb ndx
    rw [upd_ne nd, del_ne nb, upd_ne nb, upd_ne nd, upd_ne nb]
    exact hb
/-- a def that is an own class's __init__ -/
def GIni (P : Program) (w : World) (K : PySem.W.Frag) (mg : Str → Option Value) (base : Heap) (k : Nat) (fI : Addr) (ps : List Str) (f : Str) : Prop := ∃ fd, FnOk P w K mg base (L2.CX P w) k fI fd ps (spI K f) ∧ Binds K fd ps []
theorem passF {X : Cx} : Passes (L2.CX X.prog X.w) X (fun _ _ _ => False) := fun _ _ _ _ _ _ _ h => by
  obtain ⟨_, _, _, _, _, _, _, _, _, _, _, _, h⟩ := h
  exact h.elim
theorem ps_rz {X : Cx} {C fI : Addr} {f x : Str} {k : Nat} {ps : List Str} {E : XK} {ta : TA} {e : Expr} {p pos pos2 : Pos} (F : ClsF X.K C fI f) (G : GIni X.prog X.w X.K X.mg X.base k fI ps f) (hr : Room (k + 1) X.A) (hc : X.calm = true) (tk : Takes X (fun cls d _ H => E cls d H)) (hg : Gl X x) (hm : X.mg x = some (.ref C)) (ha : PA X [e] ta)
    (hdb : (x == ("__debug__" : Str)) = false := by decide) (he : starEach [e] X.env = (false, eval e X.env) :: starEach [] X.env := by rfl) : PS X (.Raise (some (.Call (.Name x p) [e] [] pos)) none pos2) (tRaise X.K C f E ta) := by
  obtain ⟨fd, F1, b⟩ := G
  exact ps_raise hc tk (pmk_oex (dvs := []) F.o F.iC F.tI F1 hr b .nil passF hg hm ha hdb he rfl)
theorem all_at {K : PySem.W.Frag} {l : List (PySem.W.Frag → Bool)} (h : (l.all fun f => f K) = true) (i : Nat) {f : PySem.W.Frag → Bool} (e : l[i]? = some f) : f K = true :=
  List.all_eq_true.mp h f (List.mem_of_getElem? e)
end Xn
namespace Xn
open PySem PySem.Spec PyProof.Rows L2
theorem bodyX {P : Program} {w : World} {K : PySem.W.Frag} {mg : Str → Option Value} {base : Heap} {N : List Str} {qual : Str} {scope : Scope} {f : Addr} {cdv : Value} {A : Around} {outer : List Env} {s : Shared} {H : Hp} {E : XK} {b : List Stmt} {t : TS}
    (h : Takes (cxOf (L2.CX P w) P w K mg base N qual scope f cdv A outer s H E) (fun cls d _ H => E cls d H) → Passes (L2.CX P w) (cxOf (L2.CX P w) P w K mg base N qual scope f cdv A outer s H E) E → PassesOwn (model P w) (cxOf (L2.CX P w) P w K mg base N qual scope f cdv A outer s H E).A (cxOf (L2.CX P w) P w K mg base N qual scope f cdv A outer s H E).env (cxOf (L2.CX P w) P w K mg base N qual scope f cdv A outer s H E).xe →
      PSs (cxOf (L2.CX P w) P w K mg base N qual scope f cdv A outer s H E) b t) : PSs (cxOf (L2.CX P w) P w K mg base N qual scope f cdv A outer s H E) b t := h (takes_of rfl rfl rfl rfl) (U.px rfl rfl rfl rfl) (passes_of rfl)
end Xn
/-! ### the head's Hook, the interpreter's own statics among what is seen -/
namespace Xn
open PySem PySem.Spec PyProof.Rows L2 He
def asY (g : Addr → Option Obj) (n : Nat) : List Addr := asD g n ++ [cStatics]
def obsY (n : Nat) (fa : List Fa) (fn : List DefD) (tf : List Defn) (ex : PySem.W.Frag → Bool) (g : Addr → Option Obj) : AlX := (obsT fa fn [] (frT g (asY g n)), ex (frT g (asY g n)) && tabsB g tf (frT g (asY g n)))
theorem saysY_of {n : Nat} {fa : List Fa} {fn : List DefD} {tf : List Defn} {ex : PySem.W.Frag → Bool} {w : World} {h : Heap} (e : obsY n fa fn tf ex h.get? = valX fn [] w) : SaysX fa fn [] tf ex w h (frT h.get? (asY h.get? n)) := by
  have e1 : obsT fa fn [] (frT h.get? (asY h.get? n)) = valT fn [] w := congrArg (fun z : AlX => z.1) e
  have e2 : (ex (frT h.get? (asY h.get? n)) && tabsB h.get? tf (frT h.get? (asY h.get? n))) = true := congrArg (fun z : AlX => z.2) e
  generalize asY h.get? n = as at *
  obtain ⟨h1, h2⟩ := Bool.and_eq_true_iff.mp e2
  have key : ∀ p ∈ tf, PySem.W.codeHdIn (frT h.get? as) (cT (frT h.get? as) p).1 (cT (frT h.get? as) p).2 = true ∧ ∃ o, h.get? (cT (frT h.get? as) p).2 = some o ∧ emptyTab o = true := fun p hp => by
    obtain ⟨h3, h4⟩ := Bool.and_eq_true_iff.mp (List.all_eq_true.mp h2 p hp)
    refine ⟨h3, ?_⟩
    split at h4
    · rename_i o q
      exact ⟨o, q, h4⟩
    · cases h4
  refine ⟨e1, h1, fun p hp => (key p hp).1, fun p hp => ?_, fun p hp => ?_⟩
  · obtain ⟨_, o, q, z⟩ := key p hp
    exact frT_none q z
  · obtain ⟨_, o, q, z⟩ := key p hp
    rw [q, emptyTab_eq z]
def hookY (n : Nat) (fa : List Fa) (fn : List DefD) (tf : List Defn) (ex : PySem.W.Frag → Bool) : PySem.W.Hook where
  α := AlX
  obs := fun s => obsY n fa fn tf ex s.heap.get?
  val := fun w => valX fn [] w
  says := fun w h => ∃ K : PySem.W.Frag, K.In h ∧ SaysX fa fn [] tf ex w h K
  of := fun _ _ e => ⟨_, frT_in, saysY_of e⟩
  keeps := fun _ _ _ ⟨K, hK, c⟩ k => ⟨K, PySem.W.Frag.In.keeps hK k, ⟨c.t, c.more, c.hd, c.out, fun p hp => k _ _ (c.empty p hp)⟩⟩
theorem obsY_eq {n : Nat} {fa : List Fa} {fn : List DefD} {tf : List Defn} {ex : PySem.W.Frag → Bool} {g : Addr → Option Obj} {s : Shared} (h : ∀ a, g a = s.heap.get? a) : obsY n fa fn tf ex g = (hookY n fa fn tf ex).obs s := by
  have e : g = s.heap.get? := funext h
  rw [e] <;> rfl
end Xn
namespace Xn
open PySem L2
theorem raise {K : PySem.W.Frag} {C : Addr} {f : Str} {E : XK} {ta : TA} {D : Ends} {σ : L2.St} {H : Hp} (h : ta σ H (RzP K C f E)) : tRaise K C f E ta D σ H := h
end Xn
namespace Xn
open PySem PySem.Spec PyProof.Rows L2
theorem pe_gr {X : Cx} {x : Str} {a : Addr} {pos : Pos} (hg : Gl X x) (h : X.mg x = some (.ref a)) (hd : (x == ("__debug__" : Str)) = false := by decide) : PE X (.Name x pos) (tC (.ref a)) := pe_glob (v := .ref a) hg h rfl hd
end Xn

namespace Xn
open PySem PySem.Spec PyProof.Rows L2
/-- what is known of the slots may be forgotten -/
theorem inv_forget {X : Cx} {pins : List (Addr × Obj)} {σ : L2.St} {H : Hp} {s : Shared} (I : Inv X pins σ H s) : Inv X pins (List.replicate X.N.length none) H s where
  ok := I.ok
  os := I.os
  bare := I.bare
  base := I.base
  loc := let ⟨m, h, _⟩ := I.loc; ⟨m, h, fun i x v _ hv _ => by
    rw [List.getElem?_replicate] at hv
    split at hv
    · cases hv
    · cases hv⟩
  cell := I.cell
  free := I.free
  freeC := I.freeC
  pin := I.pin
  hok := I.hok
  len := List.length_replicate
def EW (n : Nat) (W : WX) : XK := fun cls d H => W cls d (List.replicate n none) H
theorem takes_forget {X : Cx} {n : Nat} {W : WX} (hn : X.N.length = n) (tk : Takes X W) : Takes X (fun cls d _ H => EW n W cls d H) := fun u s' ⟨a, B, sI, pins, σ, H, cls, d, e, I, nb, up, sky, na, os, ag, w⟩ => by
  subst hn
  exact tk u s' ⟨a, B, sI, pins, _, H, cls, d, e, inv_forget I, nb, up, sky, na, os, ag, w⟩
theorem pxW {X : Cx} {n : Nat} {W : WX} (tk : Takes X W) (hn : X.N.length = n) : Passes (L2.CX X.prog X.w) X (EW n W) := passes_call (takes_forget hn tk) fun _ _ _ _ h => h
theorem withPx {P Q : Prop} (h : P) (f : P → Q) : Q := f h
/-- try: .. / except C as n: .. -/
def tTry (K : PySem.W.Frag) (E : XK) (tb : WX → TS) (l : List (Value × Nat × (Addr → Value → Option Addr → TS))) : TS := fun D σ H => tb (wMas K (fun cls d _ H => E cls d H) D l) D σ H
end Xn
namespace Xn
open PySem PySem.Spec PyProof.Rows L2
/-- a def whose code object is looked at -/
theorem okC {P : Program} {w : World} {K : PySem.W.Frag} {mg : Str → Option Value} {base : Heap} {CX : CXT} {x qual : Str} {params : Arguments} {body : List Stmt} {scope : Scope} {p : Str × Option Str} {fd : FuncData} {N ps : List Str} {k : Nat} {sp : Sp}
    (F : FunD K x qual params body scope [] [] (He.fAd K p) fd) (S : FnScope N ps scope) (len : ∀ vs H Q E, sp vs H Q E → vs.length = ps.length)
    (hbody : ∀ (A : Around) (outer : List Env) (s : Shared) (H : Hp) (vs : List V) (Q : VK) (E : XK), Room k (A.deeper (envOfC qual scope s.heap.objs.size (He.fAd K p) (.ref (He.codeOf K p)))) → sp vs H Q E →
      ∃ t, PSs (cxOf CX P w K mg base N qual scope (He.fAd K p) (.ref (He.codeOf K p)) A outer s H E) body t ∧ t { nx := fun _ H' => Q .non H', rt := Q } (start N vs) H) : FnOk P w K mg base CX (k + 1) (He.fAd K p) fd ps sp := by
  obtain ⟨oc, od, dV, kV, doc, pm, an, cdv, ct, osl, rfl, lk, hcd, _, _⟩ := F.ex
  obtain ⟨c, rfl⟩ := He.codeIn_ref hcd
  have e := He.codeOf_eq lk rfl
  subst e
  exact fn_of lk hcd S len fun A outer s H vs Q E hr hsp => hbody A outer s H vs Q E hr hsp
/-- x(lambda: body), x a def of the module -/
theorem pe_lam {X : Cx} {T : List (Addr × Str)} {TT : (XK → Hp → VK → Prop) → Hp → VK → Prop} {x a : Str} {g c P : Addr} {k : Nat} {pg : Arguments} {bg : List Stmt} {sg : Scope} {fd : FuncData} {Ng : List Str} {params : Arguments} {body : Expr} {scope : Scope} {t : XK → TE} {p lpos pos : Pos}
    (F : FunD X.K x x pg bg sg [] [] g fd) (hg : Gl X x) (hm : X.mg x = some (.ref g)) (hb : L2.Binds X.K fd [a] []) (Sg : FnScope Ng [a] sg) (hNg : Ng[0]? = some a) (hva : Vis sg a) (hG : ∀ cdg, LamX.GivesTo X Ng x sg g cdg bg a (X.env.qual ++ "<lambda>") TT)
    (TB : LamX.TabB X.base X.mg c P) (hcode : X.env.code = .ref c) (hmT : (P, X.env.qual ++ "<lambda>") ∈ T) (hu : ∀ p ∈ T, p.1 = P → p.2 = X.env.qual ++ "<lambda>") (hr : Room (k + 2) X.A) (L : LamX.LamS X.env.scope scope) (hdef : defaultsOf params X.env = ([], []))
    (hbind : ∀ (q : Str) (cl : List (Str × Addr)) (pm cv ctv : Value), bindArgs (PySem.W.kla_fn "<lambda>" q params body scope cl pm cv ctv) ⟨[], []⟩ = pure [])
    (hbody : ∀ (A : Around) (outer : List Env) (s : Shared) (H : Hp) (E : XK) (f c' : Addr), Room k (A.deeper (LamX.lamEnv X scope s.heap.objs.size f c')) → PE (LamX.lamCx X A outer s H E scope f c') body (t E))
    (hdb : (x == ("__debug__" : Str)) = false := by decide) (hd : (a == ("__debug__" : Str)) = false := by decide) (hcd : (a == ("__classdict__" : Str)) = false := by decide) :
    PE X (.Call (.Name x p) [.Lambda params body scope lpos] [] pos) (LamX.tLam T TT t) := by
  obtain ⟨oc, od, dV, kV, doc, pm, an, cdv, ct, osl, rfl, lk, hc, _, _⟩ := F.ex
  exact LamX.pe_lamcall hg hm F.kp lk hc hb Sg hNg hva (hG cdv) TB hcode hmT hu hr L hdef hbind hbody hdb hd hcd
end Xn
namespace Xn
open PySem PySem.Spec PyProof.Rows L2
/-- a call within a try: the wish for its exceptions is found later -/
theorem pe_act2 {X : Cx} {e : Expr} {n : Nat} {W : WX} {t : XK → TE} (h : ∀ Ech : XK, (∀ cls d H, Ech cls d H → EW n W cls d H) → PE X e (t Ech)) :
    PE X e (fun σ H Q => ∃ Ech : XK, (∀ cls d H, Ech cls d H → EW n W cls d H) ∧ t Ech σ H Q) := ⟨fun pins s σ H Q I ⟨Ech, hE, q⟩ => (h Ech hE).run pins s σ H Q I q⟩
end Xn

namespace Pf
open PySem PySem.Spec PyProof.Rows L2
local macro_rules | `(tactic| wtm_at "hp") => `(tactic| first
  | assumption
  | exact upd_same
  | ((with_reducible apply R.updOld); assumption; wtm_at "hp")
  | ((with_reducible apply R.updNe); first | assumption | exact Ne.symm (by assumption); wtm_at "hp"))
local macro_rules | `(tactic| wtm_at "sq") => `(tactic| first
  | assumption
  | ((with_reducible apply SqL.of); wtm_at "hp")
  | ((with_reducible apply SqT.of); wtm_at "hp")
  | ((with_reducible apply R.sqlOld); assumption; wtm_at "sq")
  | ((with_reducible apply R.sqtOld); assumption; wtm_at "sq")
  | ((with_reducible apply R.sqlNe); assumption; wtm_at "sq")
  | ((with_reducible apply R.sqtNe); assumption; wtm_at "sq"))
local macro_rules | `(tactic| wtm_at "pl") => `(tactic| first
  | exact R.Pl.int _
  | exact R.Pl.str _
  | exact R.Pl.bl _
  | exact R.Pl.non
  | assumption
  | ((with_reducible apply R.Pl.lst); wtm_at "sq")
  | ((with_reducible apply R.Pl.tup); wtm_at "sq")
  | ((with_reducible apply R.Pl.dic); wtm_at "hp"))
local macro_rules | `(tactic| wtm_at "sc") => `(tactic| first
  | assumption
  | decide
  | omega)
local macro_rules | `(tactic| wtm_at "len") => `(tactic| first
  | assumption
  | (rw [sizeLine_eq]; first | decide | omega))
local macro_rules | `(tactic| wtm_at "vc1") => `(tactic| first
  | ((with_reducible apply R.var); with_unfolding_all rfl)
  | (with_reducible refine R.c ?_)
  | (with_reducible refine R.cons ?_)
  | (with_reducible refine R.nil ?_)
  | (with_reducible refine R.op ?_)
  | (with_reducible refine R.cb ?_)
  | (with_reducible refine R.seq ?_)
  | (with_reducible refine R.asg ?_)
  | (with_reducible refine R.gname ?_)
  | (with_reducible refine R.exB ?_)
  | (with_reducible refine R.ifS ?_)
  | (with_reducible refine R.testT ?_)
  | (with_reducible refine R.adI ?_)
  | (with_reducible refine R.i0 ?_)
  | (with_reducible refine R.ret ?_)
  | (with_reducible refine R.call ?_)
  | (with_reducible refine R.drop ?_)
  | (with_reducible refine R.testB ?_)
  | (with_reducible refine R.notT ?_)
  | (with_reducible refine R.next ?_)
  | ((with_reducible apply R.ixuL); wtm_at "sq"; with_unfolding_all rfl)
  | (with_reducible refine R.euI ?_)
  | (with_reducible refine iteT ?_)
  | (with_reducible refine iteF ?_)
  | (with_reducible refine R.lt ?_)
  | (with_reducible refine R.le ?_)
  | (with_reducible refine R.gt ?_)
  | (with_reducible refine R.ge ?_)
  | ((with_reducible apply R.mdI); wtm_at "sc")
  | ((with_reducible apply R.dvW); with_reducible apply R.cDiv; wtm_at "sc"; wtm_at "sc")
  | (with_reducible refine R.inI ?_)
  | (with_reducible refine R.forR ?_)
  | ((with_reducible apply R.mlA); wtm_at "sc"; wtm_at "sc")
  | ((with_reducible apply R.mlB); wtm_at "sc"; wtm_at "sc")
  | (with_reducible refine R.pw9 ?_)
  | (with_reducible refine R.pw18 ?_)
  | (with_reducible refine R.bm ?_)
  | (with_reducible refine R.andT ?_)
  | (with_reducible refine R.orT ?_)
  | (with_reducible refine R.lst ?_)
  | (with_reducible refine R.tup ?_)
  | wtm_at "vc2")
local macro_rules | `(tactic| wtm_at "vc2") => `(tactic| first
  | ((with_reducible apply R.aug); with_unfolding_all rfl)
  | (with_reducible refine R.ipi ?_)
  | (with_reducible refine R.ipA ?_)
  | (with_reducible refine R.par3 ?_)
  | (with_reducible refine R.exVs3 ?_)
  | (with_reducible refine R.par ?_)
  | (with_reducible refine R.exVs2 ?_)
  | (with_reducible refine R.gcons ?_)
  | (with_reducible refine R.gnil ?_)
  | (with_reducible refine R.gsub ?_)
  | (with_reducible refine R.nuI ?_)
  | (with_reducible refine R.euS ?_)
  | (with_reducible refine R.nuS ?_)
  | (with_reducible refine R.inB ?_)
  | (with_reducible refine R.abs ?_)
  | (with_reducible refine R.max2 ?_)
  | (with_reducible refine R.min2 ?_)
  | (with_reducible refine R.un ?_)
  | (with_reducible refine R.iU ?_)
  | (with_reducible refine R.andV ?_)
  | (with_reducible refine R.orV ?_)
  | (with_reducible refine R.notV ?_)
  | (with_reducible refine R.ifE ?_)
  | (with_reducible refine R.chain ?_)
  | (with_reducible refine R.isN ?_)
  | (with_reducible refine R.notN ?_)
  | (with_reducible refine R.callP ?_)
  | (with_reducible refine R.retN ?_)
  | (with_reducible refine R.brk ?_)
  | (with_reducible refine R.cont ?_)
  | (with_reducible refine R.iteNT ?_)
  | (with_reducible refine R.iteNF ?_)
  | ((with_reducible apply R.ixuT); wtm_at "sq"; with_unfolding_all rfl)
  | ((with_reducible apply R.lnL); wtm_at "sq")
  | ((with_reducible apply R.lnT); wtm_at "sq")
  | ((with_reducible apply R.lnK); assumption)
  | ((with_reducible apply R.gtup); wtm_at "sq"; with_unfolding_all rfl)
  | ((with_reducible apply R.setL); wtm_at "hp"; with_unfolding_all rfl)
  | ((with_reducible apply R.append); wtm_at "hp"; wtm_at "len")
  | ((with_reducible apply R.wip); rfl)
  | (with_reducible refine R.yes ?_)
  | (with_reducible refine R.lcR ?_)
  | (with_reducible refine Xn.raise ?_)
  | (with_reducible refine R.chain3 ?_)
  | (with_reducible refine R.pw6 ?_)
  | (with_reducible refine R.pw8 ?_)
  | (with_reducible refine R.sl ?_)
  | (with_reducible refine R.noPart ?_)
  | (with_reducible refine R.part ?_)
  | (with_reducible refine R.exI ?_)
  | ((with_reducible apply R.lcAdd); wtm_at "hp"; wtm_at "len")
  | ((with_reducible apply R.isiI true); wtm_at "pl"; with_unfolding_all rfl)
  | ((with_reducible apply R.isiI false); wtm_at "pl"; with_unfolding_all rfl)
  | ((with_reducible apply R.isiB true); wtm_at "pl"; with_unfolding_all rfl)
  | ((with_reducible apply R.isiB false); wtm_at "pl"; with_unfolding_all rfl)
  | ((with_reducible apply R.isiT true); wtm_at "pl"; with_unfolding_all rfl)
  | ((with_reducible apply R.isiT false); wtm_at "pl"; with_unfolding_all rfl)
  | ((with_reducible apply R.isiL true); wtm_at "pl"; with_unfolding_all rfl)
  | ((with_reducible apply R.isiL false); wtm_at "pl"; with_unfolding_all rfl)
  | ((with_reducible apply R.isiS true); wtm_at "pl"; with_unfolding_all rfl)
  | ((with_reducible apply R.isiS false); wtm_at "pl"; with_unfolding_all rfl)
  | ((with_reducible apply R.isiD true); wtm_at "pl"; with_unfolding_all rfl)
  | ((with_reducible apply R.isiD false); wtm_at "pl"; with_unfolding_all rfl)
  | ((with_reducible apply R.isiLT true); wtm_at "hp"; wtm_at "pl"; with_unfolding_all rfl)
  | ((with_reducible apply R.isiLT false); wtm_at "hp"; wtm_at "pl"; with_unfolding_all rfl)
  | ((with_reducible apply R.tyLA); wtm_at "sq")
  | ((with_reducible apply R.iteTr); rfl)
  | ((with_reducible apply R.iteFr); rfl))
local macro_rules | `(tactic| wtm_at "vc") => `(tactic| repeat (wtm_at "vc1"))
local macro_rules | `(tactic| wtm_at "vs") => `(tactic| repeat ((fail_if_success (with_reducible apply R.seq)); wtm_at "vc1"))

/-! is_integer, is_between -/
def isInt : V → Bool
  | .int _ => true
  | _ => false
def btw (lo hi : Int) : V → Bool
  | .int i => decide (lo ≤ i) && decide (i ≤ hi)
  | _ => false
def sp_is_integer (K : PySem.W.Frag) : Sp := fun vs H Q _ => ∃ x n, vs = [x] ∧ R.Pl K H x n ∧ Q (.bl (isInt x)) H
theorem len_is_integer {K : PySem.W.Frag} (vs : List V) (H : Hp) (Q : VK) (E : XK) (h : sp_is_integer K vs H Q E) : vs.length = (["value"] : List Str).length := by
  obtain ⟨x, n, rfl, _⟩ := h; rfl
def t_is_integer (K : PySem.W.Frag) (E : XK) : TS :=
  (tRet (tAndV (tCB (rIsi K) (tCons (tVar 0) (tCons (tC (.ty "int")) tNil))) (tNotV (tCB (rIsi K) (tCons (tVar 0) (tCons (tC (.ty "bool")) tNil))))))
theorem rd_is_integer {K : PySem.W.Frag} (vs : List V) (H : Hp) (Q : VK) (E : XK) (h : sp_is_integer K vs H Q E) : t_is_integer K E { nx := fun _ H' => Q .non H', rt := Q } (start ["value"] vs) H := by
  obtain ⟨x, n, rfl, hp, k⟩ := h
  unfold t_is_integer
  cases hp <;> (wtm_at "vc"; exact k)
def sp_is_between (K : PySem.W.Frag) : Sp := fun vs H Q _ => ∃ x lo hi n, vs = [x, .int lo, .int hi] ∧ R.Pl K H x n ∧ Q (.bl (btw lo hi x)) H
theorem len_is_between {K : PySem.W.Frag} (vs : List V) (H : Hp) (Q : VK) (E : XK) (h : sp_is_between K vs H Q E) : vs.length = (["value", "least", "most"] : List Str).length := by
  obtain ⟨x, lo, hi, n, rfl, _⟩ := h; rfl
def t_is_between (K : PySem.W.Frag) (E : XK) : TS :=
  (tRet (tAndV (tCall (sp_is_integer K) [] E (tCons (tVar 0) tNil)) (tChain U.rLe U.rLe (tVar 1) (tVar 0) (tVar 2))))
theorem rd_is_between {K : PySem.W.Frag} (vs : List V) (H : Hp) (Q : VK) (E : XK) (h : sp_is_between K vs H Q E) : t_is_between K E { nx := fun _ H' => Q .non H', rt := Q } (start ["value", "least", "most"] vs) H := by
  obtain ⟨x, lo, hi, n, rfl, hp, k⟩ := h
  unfold t_is_between
  wtm_at "vc"
  refine ⟨x, n, rfl, hp, ?_⟩
  wtm_at "vc"
  cases hp with
  | int i =>
    refine iteT ?_
    wtm_at "vc"
    refine R.ifd ?_ ?_ <;> intro h
    · wtm_at "vc"
      have e : btw lo hi (.int i) = decide (i ≤ hi) := by simp [btw, h]
      rw [e] at k
      exact k
    · have e : btw lo hi (.int i) = false := by simp [btw, h]
      rw [e] at k
      exact k
  | _ => exact k

/-! the law's draws -/
structure PoolOk (a b : Int) : Prop where
  a0 : 0 ≤ a
  b0 : 0 ≤ b
  b1 : b < 2147483648
def PoolAt (H : Hp) (p : Addr) : Prop := ∃ a b : Int, H p = some (.lst [.int a, .int b]) ∧ PoolOk a b
theorem PoolAt.new {H : Hp} {p : Addr} {a b : Int} (h : PoolOk a b) : PoolAt (upd H p (.lst [.int a, .int b])) p := ⟨a, b, upd_same, h⟩
theorem PoolAt.old {H : Hp} {p q : Addr} {o : HO} (h : PoolAt H p) (n : H q = none) : PoolAt (upd H q o) p := let ⟨a, b, e, k⟩ := h; ⟨a, b, R.updOld n e, k⟩
theorem PoolAt.ne {H : Hp} {p q : Addr} {o : HO} (h : PoolAt H p) (n : p ≠ q) : PoolAt (upd H q o) p := let ⟨a, b, e, k⟩ := h; ⟨a, b, R.updNe n e, k⟩
def sp_law_take (K : PySem.W.Frag) : Sp := fun vs H Q _ => ∃ (p : Addr) (many : Int), vs = [.ref p, .int many] ∧ PoolAt H p ∧ 0 < many ∧ many < 4611686018427387904 ∧
  ∀ r H', 0 ≤ r → r < many → PoolAt H' p → R.ExB p H H' → Q (.int r) H'
theorem len_law_take {K : PySem.W.Frag} (vs : List V) (H : Hp) (Q : VK) (E : XK) (h : sp_law_take K vs H Q E) : vs.length = (["pool", "many"] : List Str).length := by
  obtain ⟨p, many, rfl, _⟩ := h; rfl
def t_law_take (K : PySem.W.Frag) (E : XK) : TS :=
  (tSeq (tIfS (tTest (tOp U.rGt (tOp (rIx K) (tVar 0) (tC (.int 0))) (tC (.int 0)))) (tSeq (tAsg (tOp U.rMod (tCB U.rInt (tCons (tOp (rIx K) (tVar 0) (tC (.int 0))) tNil)) (tVar 1)) (gName 2))
    (tSeq (tAsg (tOp U.rDiv (tCB U.rInt (tCons (tOp (rIx K) (tVar 0) (tC (.int 0))) tNil)) (tVar 1)) (gSub (tVar 0) (tC (.int 0)) rSetL))
    (tRet (tVar 2))))
    tNext)
    (tSeq (tAsg (tOp U.rMod (tCB U.rInt (tCons (tOp (U.rAdd K) (tOp U.rMul (tOp (rIx K) (tVar 0) (tC (.int 1))) (tC (.int 48271))) (tC (.int 11))) tNil)) (tC (.int 2147483647))) (gSub (tVar 0) (tC (.int 1)) rSetL))
    (tRet (tOp U.rMod (tOp U.rDiv (tOp U.rMod (tCB U.rInt (tCons (tOp U.rMul (tOp (rIx K) (tVar 0) (tC (.int 1))) (tOp (rIx K) (tVar 0) (tC (.int 1)))) tNil)) (tC (.int 2147483629))) (tC (.int 64))) (tVar 1)))))
theorem rd_law_take {K : PySem.W.Frag} (vs : List V) (H : Hp) (Q : VK) (E : XK) (h : sp_law_take K vs H Q E) : t_law_take K E { nx := fun _ H' => Q .non H', rt := Q } (start ["pool", "many", "found"] vs) H := by
  obtain ⟨p, many, rfl, ⟨a, b, hp, ⟨a0, b0, b1⟩⟩, m0, m1, k⟩ := h
  unfold t_law_take
  wtm_at "vc"
  (with_reducible refine R.ifd ?_ ?_) <;> intro h
  · wtm_at "vc"
    exact k _ _ (Int.emod_nonneg _ (by omega)) (Int.emod_lt_of_pos _ m0) (PoolAt.new ⟨Int.ediv_nonneg a0 (by omega), b0, b1⟩) R.ExB.at
  · have q0 : 0 ≤ (b * 48271 + 11) % 2147483647 := Int.emod_nonneg _ (by decide)
    have q1 : (b * 48271 + 11) % 2147483647 < 2147483647 := Int.emod_lt_of_pos _ (by decide)
    wtm_at "vc"
    exact k _ _ (Int.emod_nonneg _ (by omega)) (Int.emod_lt_of_pos _ m0) (PoolAt.new ⟨a0, q0, by omega⟩) R.ExB.at

def sp_law_pool (K : PySem.W.Frag) : Sp := fun vs H Q _ => ∃ (s : Addr) (ns : List Int) (k : Nat), vs = [.ref s, .int k] ∧ SqL K H s (ns.map V.int) ∧ k ≤ 1000 ∧
  ∀ p H', H p = none → PoolAt H' p → R.Ex H H' → Q (.ref p) H'
theorem len_law_pool {K : PySem.W.Frag} (vs : List V) (H : Hp) (Q : VK) (E : XK) (h : sp_law_pool K vs H Q E) : vs.length = (["script", "k"] : List Str).length := by
  obtain ⟨s, ns, k, rfl, _⟩ := h; rfl
def t_law_pool (K : PySem.W.Frag) (E : XK) : TS :=
  (tSeq (tAsg (tC (.int 0)) (gName 2))
    (tSeq (tIfS (tTest (tOp U.rLt (tVar 1) (tCB (U.rLen K) (tCons (tVar 0) tNil)))) (tAsg (tCB U.rInt (tCons (tOp (rIx K) (tVar 0) (tVar 1)) tNil)) (gName 2))
    tNext)
    (tSeq (tAsg (tCB U.rAbs (tCons (tVar 2) tNil)) (gName 3))
    (tSeq (tAsg (tOp (U.rAdd K) (tOp (U.rAdd K) (tOp U.rMod (tCB U.rInt (tCons (tVar 2) tNil)) (tC (.int 2147483629))) (tOp U.rMul (tC (.int 48271)) (tVar 1))) (tC (.int 11))) (gName 4))
    (tRet (tLst (tCons (tOp U.rMul (tVar 3) (tCB U.rInt (tCons (tOp U.rGe (tVar 3) (tOp U.rPow (tC (.int 10)) (tC (.int 18)))) tNil))) (tCons (tOp U.rMod (tCB U.rInt (tCons (tOp (U.rAdd K) (tOp U.rMul (tOp U.rMul (tVar 4) (tVar 4)) (tVar 4)) (tOp U.rMul (tC (.int 39373)) (tVar 1))) tNil)) (tC (.int 2147483647))) tNil))))))))
theorem pool_tail {K : PySem.W.Frag} {s : Addr} {c : Int} {k : Nat} {Q : VK} {H : Hp} {D : Ends} (hD : D.rt = Q) (hk : k ≤ 1000) (h : ∀ p H', H p = none → PoolAt H' p → R.Ex H H' → Q (.ref p) H') :
   (tSeq (tAsg (tCB U.rAbs (tCons (tVar 2) tNil)) (gName 3))
    (tSeq (tAsg (tOp (U.rAdd K) (tOp (U.rAdd K) (tOp U.rMod (tCB U.rInt (tCons (tVar 2) tNil)) (tC (.int 2147483629))) (tOp U.rMul (tC (.int 48271)) (tVar 1))) (tC (.int 11))) (gName 4))
    (tRet (tLst (tCons (tOp U.rMul (tVar 3) (tCB U.rInt (tCons (tOp U.rGe (tVar 3) (tOp U.rPow (tC (.int 10)) (tC (.int 18)))) tNil))) (tCons (tOp U.rMod (tCB U.rInt (tCons (tOp (U.rAdd K) (tOp U.rMul (tOp U.rMul (tVar 4) (tVar 4)) (tVar 4)) (tOp U.rMul (tC (.int 39373)) (tVar 1))) tNil)) (tC (.int 2147483647))) tNil))))))
    D [some (.ref s), some (.int k), some (.int c), none, none] H := by
  have s0 : 0 ≤ c % 2147483629 := Int.emod_nonneg _ (by decide)
  have s1 : c % 2147483629 < 2147483629 := Int.emod_lt_of_pos _ (by decide)
  generalize hg : (if c < 0 then -c else c) = g
  have g0 : 0 ≤ g := by rw [← hg]; split <;> omega
  have m0 : ∀ P : Prop, [Decidable P] → -18446744073709551616 < (if decide P = true then (1 : Int) else 0) ∧ (if decide P = true then (1 : Int) else 0) < 18446744073709551616 ∧ 0 ≤ (if decide P = true then (1 : Int) else 0) := fun P _ => by split <;> omega
  wtm_at "vc"
  rw [hg]
  wtm_at "vc"
  have m1 := m0 (1000000000000000000 ≤ g)
  refine ⟨by show 2 ≤ sizeLine; decide, fun p hp => ?_⟩
  rw [hD]
  exact h p _ hp (PoolAt.new ⟨Int.mul_nonneg g0 m1.2.2, Int.emod_nonneg _ (by decide), by have := Int.emod_lt_of_pos ((c % 2147483629 + 48271 * k + 11) * (c % 2147483629 + 48271 * k + 11) * (c % 2147483629 + 48271 * k + 11) + 39373 * k) (show (0 : Int) < 2147483647 by decide); omega⟩) (R.Ex.new hp)
theorem rd_law_pool {K : PySem.W.Frag} (vs : List V) (H : Hp) (Q : VK) (E : XK) (h : sp_law_pool K vs H Q E) : t_law_pool K E { nx := fun _ H' => Q .non H', rt := Q } (start ["script", "k", "cell", "great", "seed"] vs) H := by
  obtain ⟨s, ns, k, rfl, hs, hk, h⟩ := h
  unfold t_law_pool
  wtm_at "vc"
  (with_reducible refine R.ifd ?_ ?_) <;> intro hlt
  · rw [List.length_map] at hlt
    have hlt' : k < ns.length := by omega
    have e : atI (ns.map V.int) (k : Int) = some (.int ns[k]) := atI_nat (by simp [hlt'])
    wtm_at "vc"
    refine R.ixuL hs e ?_
    wtm_at "vc1"
    wtm_at "vc1"
    wtm_at "vc1"
    exact pool_tail rfl hk h
  · exact pool_tail rfl hk h

abbrev c_MOST : V := .int 1000000000
/-! rows of pairs -/
structure Prs (K : PySem.W.Frag) (H : Hp) (xs : List V) (ps : List (Int × Int)) : Prop where
  len : xs.length = ps.length
  at_ : ∀ (i : Nat) (p : Int × Int), ps[i]? = some p → ∃ t : Addr, xs[i]? = some (.ref t) ∧ SqT K H t [.int p.1, .int p.2]
def POk (ps : List (Int × Int)) : Prop := ∀ p ∈ ps, 0 ≤ p.1 ∧ p.1 ≤ 1000000000 ∧ 1 ≤ p.2 ∧ p.2 ≤ 1000000000
theorem Prs.ex {K : PySem.W.Frag} {H H' : Hp} {xs : List V} {ps : List (Int × Int)} (h : Prs K H xs ps) (e : R.Ex H H') : Prs K H' xs ps :=
  ⟨h.len, fun i p q => let ⟨t, a, b⟩ := h.at_ i p q; ⟨t, a, e.t b⟩⟩
theorem Prs.exb {K : PySem.W.Frag} {H H' : Hp} {p : Addr} {ys xs : List V} {ps : List (Int × Int)} (h : Prs K H xs ps) (e : R.ExB p H H') (hp : H p = some (.lst ys)) : Prs K H' xs ps :=
  ⟨h.len, fun i p q => let ⟨t, a, b⟩ := h.at_ i p q; ⟨t, a, R.sqtB e hp b⟩⟩
theorem Prs.get {K : PySem.W.Frag} {H : Hp} {xs : List V} {ps : List (Int × Int)} (h : Prs K H xs ps) {i : Nat} {x : V} (hx : xs[i]? = some x) : ∃ p t, ps[i]? = some p ∧ x = .ref t ∧ SqT K H t [.int p.1, .int p.2] := by
  have hi := (List.getElem?_eq_some_iff.mp hx).1
  have hi2 : i < ps.length := by rw [← h.len]; exact hi
  obtain ⟨t, a, b⟩ := h.at_ i _ (List.getElem?_eq_getElem hi2)
  rw [hx] at a
  exact ⟨_, t, List.getElem?_eq_getElem hi2, Option.some.inj a, b⟩
theorem POk.get {ps : List (Int × Int)} (h : POk ps) {i : Nat} {p : Int × Int} (hp : ps[i]? = some p) : 0 ≤ p.1 ∧ p.1 ≤ 1000000000 ∧ 1 ≤ p.2 ∧ p.2 ≤ 1000000000 := h p (List.mem_of_getElem? hp)

theorem PoolAt.lst {H : Hp} {p : Addr} (h : PoolAt H p) : ∃ ys, H p = some (.lst ys) := let ⟨_, _, h, _⟩ := h; ⟨_, h⟩
theorem PoolAt.other {H : Hp} {p q : Addr} (h : PoolAt H p) (n : H q = none) : q ≠ p := let ⟨_, h⟩ := h.lst; R.ne_of_some h n
/-- menu[_law_take(pool, many)] -/
theorem menuTake {K : PySem.W.Frag} {H : Hp} {Q : VK} {E : XK} {p m : Addr} {many : Int} (ns : List Int) (P : Int → Prop) (hp : PoolAt H p) (nm : H m = none) (hl : many = (ns.length : Int)) (m0 : 0 < many) (m1 : many < 4611686018427387904) (hn : ∀ n ∈ ns, P n)
    (k : ∀ n H2, P n → PoolAt H2 p → R.ExB p H H2 → Q (.int n) H2) : sp_law_take K [.ref p, .int many] (upd H m (.lst (ns.map V.int))) (fun y H2 => rIx K (.ref m) y H2 Q) E := by
  refine ⟨p, many, rfl, hp.old nm, m0, m1, fun r H2 r0 r1 p2 e2 => ?_⟩
  have hm := e2 _ _ (hp.other nm) (upd_same (o := .lst (ns.map V.int)))
  exact R.menu P (SqL.of hm) rfl r0 (hl ▸ r1) hn fun n h => k n H2 h p2 ((R.ExB.new nm).tr e2)

/-! _law_same of two values with the same data -/
def sp_law_same (K : PySem.W.Frag) : Nat → Sp
  | 0 => fun _ _ _ _ => False
  | n + 1 => fun vs H Q _ => ∃ x y d, vs = [x, y] ∧ Dp K H x d ∧ Dp K H y d ∧ PyData.depth d ≤ n ∧ ∀ H', R.Ex H H' → Q (.bl true) H'
theorem len_law_same {K : PySem.W.Frag} {n : Nat} (vs : List V) (H : Hp) (Q : VK) (E : XK) (h : sp_law_same K n vs H Q E) : vs.length = (["actual", "due"] : List Str).length := by
  cases n with
  | zero => exact h.elim
  | succ n => obtain ⟨x, y, d, rfl, _⟩ := h; rfl
mutual
theorem dp_ex {K : PySem.W.Frag} {H H' : Hp} (e : R.Ex H H') : ∀ {d : PyData} {v : V}, Dp K H v d → Dp K H' v d
  | _, _, .non => .non
  | _, _, .bl b => .bl b
  | _, _, .int i => .int i
  | _, _, .str x => .str x
  | _, _, .lst h hs => .lst (e.l h) (dpAll_ex e hs)
  | _, _, .tup h hs => .tup (e.t h) (dpAll_ex e hs)
theorem dpAll_ex {K : PySem.W.Frag} {H H' : Hp} (e : R.Ex H H') : ∀ {ds : List PyData} {vs : List V}, DpAll K H vs ds → DpAll K H' vs ds
  | _, _, .nil => .nil
  | _, _, .cons h hs => .cons (dp_ex e h) (dpAll_ex e hs)
end
theorem dpAll_len {K : PySem.W.Frag} {H : Hp} : ∀ {ds : List PyData} {vs : List V}, DpAll K H vs ds → vs.length = ds.length
  | _, _, .nil => rfl
  | _, _, .cons _ hs => by simp [dpAll_len hs]
theorem dpAll_at {K : PySem.W.Frag} {H : Hp} {x : V} : ∀ {ds : List PyData} {vs : List V} {i : Nat}, DpAll K H vs ds → vs[i]? = some x → ∃ d, ds[i]? = some d ∧ Dp K H x d
  | _, _, _, .nil, h => by cases h
  | _, _, 0, .cons h hs, e => by cases e; exact ⟨_, rfl, h⟩
  | _, _, i + 1, .cons h hs, e => by
    obtain ⟨d, h1, h2⟩ := dpAll_at hs (by simpa using e)
    exact ⟨d, by simpa using h1, h2⟩
theorem depth_at : ∀ {ds : List PyData} {i : Nat} {d : PyData}, ds[i]? = some d → PyData.depth d ≤ PyData.depthAll ds
  | _ :: _, 0, d, e => by cases e; exact Nat.le_max_left _ _
  | _ :: ds, i + 1, d, e => Nat.le_trans (depth_at (ds := ds) (i := i) (by simpa using e)) (Nat.le_max_right _ _)
def t_law_same (K : PySem.W.Frag) (n : Nat) (E : XK) : TS :=
  (tSeq (tIfS (tB (tIsN (tVar 1))) (tRet (tIsN (tVar 0)))
    tNext)
    (tSeq (tIfS (tB (tCB (rIsi K) (tCons (tVar 1) (tCons (tC (.ty "bool")) tNil)))) (tRet (tAndV (tCB (rIsi K) (tCons (tVar 0) (tCons (tC (.ty "bool")) tNil))) (tOp (U.rEqU K) (tVar 0) (tVar 1))))
    tNext)
    (tSeq (tIfS (tB (tCB (rIsi K) (tCons (tVar 1) (tCons (tC (.ty "int")) tNil)))) (tRet (tAndV (tCB (rIsi K) (tCons (tVar 0) (tCons (tC (.ty "int")) tNil))) (tAndV (tNotV (tCB (rIsi K) (tCons (tVar 0) (tCons (tC (.ty "bool")) tNil)))) (tOp (U.rEqU K) (tVar 0) (tVar 1)))))
    tNext)
    (tSeq (tIfS (tB (tCB (rIsi K) (tCons (tVar 1) (tCons (tC (.ty "str")) tNil)))) (tRet (tAndV (tCB (rIsi K) (tCons (tVar 0) (tCons (tC (.ty "str")) tNil))) (tOp (U.rEqU K) (tVar 0) (tVar 1))))
    tNext)
    (tSeq (tIfS (tAnd (tB (tCB (rIsi K) (tCons (tVar 1) (tCons (tC (.ty "list")) tNil)))) (tNot (tB (tCB (rIsi K) (tCons (tVar 0) (tCons (tC (.ty "list")) tNil)))))) (tRet (tC (.bl false)))
    tNext)
    (tSeq (tIfS (tAnd (tB (tCB (rIsi K) (tCons (tVar 1) (tCons (tC (.ty "tuple")) tNil)))) (tNot (tB (tCB (rIsi K) (tCons (tVar 0) (tCons (tC (.ty "tuple")) tNil)))))) (tRet (tC (.bl false)))
    tNext)
    (tSeq (tIfS (tTest (tOp (U.rNeU K) (tCB (U.rLen K) (tCons (tVar 0) tNil)) (tCB (U.rLen K) (tCons (tVar 1) tNil)))) (tRet (tC (.bl false)))
    tNext)
    (tSeq (tFor (RZ.iZipA K (tCons (tVar 0) (tCons (tVar 1) tNil))) (gTup K 2 (gCons (gName 2) (gCons (gName 3) gNil)))
    (tIfS (tNot (tB (tCall (sp_law_same K n) [] E (tCons (tVar 2) (tCons (tVar 3) tNil))))) (tRet (tC (.bl false)))
    tNext))
    (tRet (tC (.bl true)))))))))))
/-- the last part: two rows of the same kind -/
theorem same_rows {K : PySem.W.Frag} {n : Nat} {E : XK} {l : Bool} {a b : Addr} {xs ys : List V} {ds : List PyData} {H : Hp} {D : Ends} (h1 : R.SqK K l H a xs) (h2 : R.SqK K l H b ys) (d1 : DpAll K H xs ds) (d2 : DpAll K H ys ds) (hn : PyData.depthAll ds + 1 ≤ n) (k : ∀ H', R.Ex H H' → D.rt (.bl true) H') :
    (tSeq (tFor (RZ.iZipA K (tCons (tVar 0) (tCons (tVar 1) tNil))) (gTup K 2 (gCons (gName 2) (gCons (gName 3) gNil)))
    (tIfS (tNot (tB (tCall (sp_law_same K n) [] E (tCons (tVar 2) (tCons (tVar 3) tNil))))) (tRet (tC (.bl false)))
    tNext))
    (tRet (tC (.bl true)))) D [some (.ref a), some (.ref b), none, none] H := by
  obtain ⟨m, rfl⟩ : ∃ m, n = m + 1 := ⟨n - 1, by omega⟩
  have hl : xs.length = ys.length := by rw [dpAll_len d1, dpAll_len d2]
  refine R.seq ?_
  refine R.forZip rfl rfl h1 h2 hl (fun _ σ H' => ∃ u v, σ = [some (.ref a), some (.ref b), u, v] ∧ R.Ex H H') ⟨none, none, rfl, R.Ex.refl H⟩ (fun i σ H2 ⟨_, _, _, e⟩ => ⟨e.k h1, e.k h2⟩) ?_ ?_
  · rintro i x y T σ H2 hx hy ⟨u, v, rfl, e2⟩ nT
    obtain ⟨d, hd, hdx⟩ := dpAll_at d1 hx
    obtain ⟨d', hd', hdy⟩ := dpAll_at d2 hy
    rw [hd] at hd'
    cases hd'
    have e3 := e2.tr (R.Ex.new (o := .tup [x, y]) nT)
    wtm_at "vc"
    refine ⟨x, y, d, rfl, dp_ex e3 hdx, dp_ex e3 hdy, by have := depth_at hd; omega, fun H4 e4 => ?_⟩
    wtm_at "vc"
    exact ⟨_, _, rfl, e3.tr e4⟩
  · rintro σ H2 ⟨u, v, rfl, e2⟩
    wtm_at "vc"
    exact k _ e2
theorem rd_law_same {K : PySem.W.Frag} {n : Nat} (vs : List V) (H : Hp) (Q : VK) (E : XK) (h : sp_law_same K (n + 1) vs H Q E) : t_law_same K n E { nx := fun _ H' => Q .non H', rt := Q } (start ["actual", "due", "one", "other"] vs) H := by
  obtain ⟨x, y, d, rfl, hx, hy, hn, k⟩ := h
  unfold t_law_same
  have kr := k H (R.Ex.refl H)
  cases hx with
  | non => cases hy; wtm_at "vc"; exact kr
  | bl b =>
    cases hy
    wtm_at "vc"
    exact R.euD (.bl b) (.bl b) rfl rfl (by rw [SeqAt.eqv_refl _ rfl]; exact kr)
  | int i =>
    cases hy
    wtm_at "vc"
    have e : decide (i = i) = true := by simp
    rw [e]
    exact kr
  | str s =>
    cases hy
    wtm_at "vc"
    have e : decide (s = s) = true := by simp
    rw [e]
    exact kr
  | lst h1 d1 =>
    cases hy with
    | lst h2 d2 =>
      wtm_at "vc"
      refine R.iteFr (by rw [dpAll_len d1, dpAll_len d2]; simp) ?_
      refine R.next ?_
      exact same_rows (l := true) h1 h2 d1 d2 hn k
  | tup h1 d1 =>
    cases hy with
    | tup h2 d2 =>
      wtm_at "vc"
      refine R.iteFr (by rw [dpAll_len d1, dpAll_len d2]; simp) ?_
      refine R.next ?_
      exact same_rows (l := false) h1 h2 d1 d2 hn k

/-! raising: what the budgets refuse -/
structure Fx (K : PySem.W.Frag) : Prop where
  num : Xn.ClsF K (He.ga K "InvalidNumber") (He.fAd K ("InvalidNumber", some "__init__")) "value"
  plan : Xn.ClsF K (He.ga K "InvalidPlan") (He.fAd K ("InvalidPlan", some "__init__")) "index"
/-- the wish for C(v), raised from H on -/
def Rs (C : Addr) (f : Str) (v : V) (E : XK) (H : Hp) : Prop := ∀ d H2, H d = none → R.Ex H H2 → H2 d = some (.xd [(f, v)]) → E (.ref C) (some d) H2
theorem Rs.ex {C : Addr} {f : Str} {v : V} {E : XK} {H H1 : Hp} (h : Rs C f v E H) (e : R.Ex H H1) : Rs C f v E H1 := fun d H2 n e2 hd => h d H2 (e.free n) (e.tr e2) hd
def btwD (lo hi : Int) : PyData → Bool
  | .int i => decide (lo ≤ i) && decide (i ≤ hi)
  | _ => false
theorem dp_pl {K : PySem.W.Frag} {H : Hp} {x : V} {d : PyData} (h : Dp K H x d) : ∃ n, R.Pl K H x n := by
  cases h with
  | non => exact ⟨_, .non⟩
  | bl b => exact ⟨_, .bl b⟩
  | int i => exact ⟨_, .int i⟩
  | str s => exact ⟨_, .str s⟩
  | lst h _ => exact ⟨_, .lst h⟩
  | tup h _ => exact ⟨_, .tup h⟩
theorem dp_btw {K : PySem.W.Frag} {H : Hp} {x : V} {d : PyData} {lo hi : Int} (h : Dp K H x d) : btw lo hi x = btwD lo hi d := by
  cases h <;> rfl
/-- is_between of data -/
theorem btw_call {K : PySem.W.Frag} {H : Hp} {x : V} {d : PyData} {lo hi : Int} {Q : VK} {E : XK} (h : Dp K H x d) (k : Q (.bl (btwD lo hi d)) H) : sp_is_between K [x, .int lo, .int hi] H Q E := by
  obtain ⟨n, hp⟩ := dp_pl h
  exact ⟨x, lo, hi, n, rfl, hp, by rw [dp_btw h]; exact k⟩
def okItem : PyData → Bool
  | .tuple [a, b] => btwD 0 1000000000 a && btwD 1 1000000000 b
  | _ => false
def badAt : List PyData → Nat → Option Nat
  | [], _ => none
  | d :: ds, i => if okItem d then badAt ds (i + 1) else some i
inductive Chk where
  | fine
  | plan (v : V)
def chkL (l : List PyData) : Chk := match badAt l 0 with
  | none => .fine
  | some i => .plan (.int (i : Nat))
def chkD : PyData → Chk
  | .list l => chkL l
  | .tuple l => chkL l
  | _ => .plan .non
def sp_require_number (K : PySem.W.Frag) : Sp := fun vs H Q E => ∃ x d, vs = [x] ∧ Dp K H x d ∧ (btwD 0 1000000000 d = true → Q .non H) ∧ (btwD 0 1000000000 d = false → Rs (He.ga K "InvalidNumber") "value" x E H)
theorem len_require_number {K : PySem.W.Frag} (vs : List V) (H : Hp) (Q : VK) (E : XK) (h : sp_require_number K vs H Q E) : vs.length = (["value"] : List Str).length := by
  obtain ⟨_, _, rfl, _⟩ := h; rfl
def t_require_number (K : PySem.W.Frag) (E : XK) : TS :=
  (tIfS (tNot (tB (tCall (sp_is_between K) [] E (tCons (tVar 0) (tCons (tC (.int 0)) (tCons (tC c_MOST) tNil)))))) (Xn.tRaise K (He.ga K "InvalidNumber") "value" E (tCons (tVar 0) tNil))
    tNext)
theorem rd_require_number {K : PySem.W.Frag} (fx : Fx K) (vs : List V) (H : Hp) (Q : VK) (E : XK) (h : sp_require_number K vs H Q E) : t_require_number K E { nx := fun _ H' => Q .non H', rt := Q } (start ["value"] vs) H := by
  obtain ⟨x, d, rfl, hd, k1, k2⟩ := h
  unfold t_require_number
  wtm_at "vc"
  refine btw_call hd ?_
  cases h : btwD 0 1000000000 d with
  | true =>
    wtm_at "vc"
    exact k1 h
  | false =>
    wtm_at "vc"
    exact Xn.rzP fx.num (k2 h)
def sp_is_row (K : PySem.W.Frag) : Sp := fun vs H Q _ => ∃ x n, vs = [x] ∧ R.Pl K H x n ∧ ∀ H', R.Ex H H' → Q (.bl (n.isL || n.isT)) H'
theorem len_is_row {K : PySem.W.Frag} (vs : List V) (H : Hp) (Q : VK) (E : XK) (h : sp_is_row K vs H Q E) : vs.length = (["value"] : List Str).length := by
  obtain ⟨x, n, rfl, _⟩ := h; rfl
def t_is_row (K : PySem.W.Frag) (E : XK) : TS :=
  (tRet (tCB (rIsiT K) (tCons (tVar 0) (tCons (tTup (tCons (tC (.ty "list")) (tCons (tC (.ty "tuple")) tNil))) tNil))))
theorem rd_is_row {K : PySem.W.Frag} (vs : List V) (H : Hp) (Q : VK) (E : XK) (h : sp_is_row K vs H Q E) : t_is_row K E { nx := fun _ H' => Q .non H', rt := Q } (start ["value"] vs) H := by
  obtain ⟨x, n, rfl, hp, k⟩ := h
  unfold t_is_row
  wtm_at "vc"
  refine ⟨by decide, fun t nt => ?_⟩
  wtm_at "vc"
  exact R.isiLT _ upd_same ((R.Ex.new nt).pl hp) rfl (k _ (R.Ex.new nt))
def sp_require_sizes (K : PySem.W.Frag) : Sp := fun vs H Q E => ∃ x d, vs = [x] ∧ Dp K H x d ∧ (chkD d = .fine → ∀ H', R.Ex H H' → Q .non H') ∧ (∀ v, chkD d = .plan v → Rs (He.ga K "InvalidPlan") "index" v E H)
theorem len_require_sizes {K : PySem.W.Frag} (vs : List V) (H : Hp) (Q : VK) (E : XK) (h : sp_require_sizes K vs H Q E) : vs.length = (["sizes"] : List Str).length := by
  obtain ⟨_, _, rfl, _⟩ := h; rfl
def t_require_sizes (K : PySem.W.Frag) (E : XK) : TS :=
  (tSeq (tIfS (tNot (tB (tCall (sp_is_row K) [] E (tCons (tVar 0) tNil)))) (Xn.tRaise K (He.ga K "InvalidPlan") "index" E (tCons (tC .non) tNil))
    tNext)
    (tFor (U.iEn K (tCons (tVar 0) tNil)) (gTup K 2 (gCons (gName 1) (gCons (gName 2) gNil)))
    (tSeq (tIfS (tOr (tNot (tB (tCB (rIsi K) (tCons (tVar 2) (tCons (tC (.ty "tuple")) tNil))))) (tTest (tOp (U.rNeU K) (tCB (U.rLen K) (tCons (tVar 2) tNil)) (tC (.int 2))))) (Xn.tRaise K (He.ga K "InvalidPlan") "index" E (tCons (tVar 1) tNil))
    tNext)
    (tIfS (tOr (tNot (tB (tCall (sp_is_between K) [] E (tCons (tOp (rIx K) (tVar 2) (tC (.int 0))) (tCons (tC (.int 0)) (tCons (tC c_MOST) tNil)))))) (tNot (tB (tCall (sp_is_between K) [] E (tCons (tOp (rIx K) (tVar 2) (tC (.int 1))) (tCons (tC (.int 1)) (tCons (tC c_MOST) tNil))))))) (Xn.tRaise K (He.ga K "InvalidPlan") "index" E (tCons (tVar 1) tNil))
    tNext))))
/-- the shape of an item -/
inductive ItemK (K : PySem.W.Frag) (H : Hp) (x : V) (d : PyData) : Prop where
  | two (a b : PyData) (t : Addr) (u v : V) (e : d = .tuple [a, b]) (ex : x = .ref t) (ht : SqT K H t [u, v]) (hu : Dp K H u a) (hv : Dp K H v b)
  | tup (t : Addr) (us : List V) (ex : x = .ref t) (ht : SqT K H t us) (n : us.length ≠ 2) (z : okItem d = false)
  | no (n : R.Kn) (h : R.Pl K H x n) (nt : n.isT = false) (z : okItem d = false)
theorem item_kind {K : PySem.W.Frag} {H : Hp} {x : V} {d : PyData} (h : Dp K H x d) : ItemK K H x d := by
  cases h with
  | non => exact .no _ .non rfl rfl
  | bl b => exact .no _ (.bl b) rfl rfl
  | int i => exact .no _ (.int i) rfl rfl
  | str s => exact .no _ (.str s) rfl rfl
  | lst h _ => exact .no _ (.lst h) rfl rfl
  | @tup a xs ds h hs =>
    cases hs with
    | nil => exact .tup a [] rfl h (by decide) rfl
    | cons h1 hs =>
      cases hs with
      | nil => exact .tup a _ rfl h (by show 1 ≠ 2; decide) rfl
      | cons h2 hs =>
        cases hs with
        | nil => exact .two _ _ a _ _ rfl rfl h h1 h2
        | cons h3 hs => exact .tup a _ rfl h (by simp) rfl
theorem ItemK.ex {K : PySem.W.Frag} {H H' : Hp} {x : V} {d : PyData} (e : R.Ex H H') : ItemK K H x d → ItemK K H' x d
  | .two a b t u v e1 e2 ht hu hv => .two a b t u v e1 e2 (e.t ht) (dp_ex e hu) (dp_ex e hv)
  | .tup t us e1 ht n z => .tup t us e1 (e.t ht) n z
  | .no n h nt z => .no n (e.pl h) nt z
theorem rd_require_sizes {K : PySem.W.Frag} (fx : Fx K) (vs : List V) (H : Hp) (Q : VK) (E : XK) (h : sp_require_sizes K vs H Q E) : t_require_sizes K E { nx := fun _ H' => Q .non H', rt := Q } (start ["sizes", "index", "item"] vs) H := by
  obtain ⟨x, d, rfl, hd, k1, k2⟩ := h
  have main : ∀ (l : Bool) (a : Addr) (xs : List V) (ds : List PyData), x = .ref a → R.SqK K l H a xs → DpAll K H xs ds → chkD d = chkL ds → t_require_sizes K E { nx := fun _ H' => Q .non H', rt := Q } (start ["sizes", "index", "item"] [x]) H := by
    intro l a xs ds ex hs hp hc
    subst ex
    unfold t_require_sizes
    wtm_at "vc"
    refine ⟨_, _, rfl, hs.pl, fun H1 e1 => ?_⟩
    have z : ((if l = true then R.Kn.lst else R.Kn.tup).isL || (if l = true then R.Kn.lst else R.Kn.tup).isT) = true := by cases l <;> rfl
    rw [z]
    wtm_at "vc"
    rw [hc] at k1 k2
    unfold chkL at k1 k2
    refine R.forEn rfl (e1.k hs) (fun i σ H' => ∃ u v, σ = [some (.ref a), u, v] ∧ R.Ex H H' ∧ badAt ds 0 = badAt (ds.drop i) i) ⟨none, none, rfl, e1, rfl⟩ (fun i σ H2 _ ⟨_, _, _, e, _⟩ => e.k hs) ?_ ?_
    · rintro i x T σ H2 hx ⟨u, v, rfl, e2, eq⟩ nT
      obtain ⟨p, hp2, hdx⟩ := dpAll_at hp hx
      have e3 := e2.tr (R.Ex.new (o := .tup [.int (i : Nat), x]) nT)
      have hT : (upd H2 T (.tup [.int (i : Nat), x])) T = some (.tup [.int (i : Nat), x]) := upd_same
      have ik := (item_kind hdx).ex e3
      rw [R.drop_cons hp2] at eq
      generalize upd H2 T (.tup [.int (i : Nat), x]) = H3 at *
      have eq2 : badAt ds 0 = if okItem p then badAt (ds.drop (i + 1)) (i + 1) else some i := eq
      have bad : okItem p = false → Rs (He.ga K "InvalidPlan") "index" (.int (i : Nat)) E H3 := fun h => by
        rw [h] at eq2
        have eq3 : badAt ds 0 = some i := eq2
        rw [eq3] at k2
        exact (k2 _ rfl).ex e3
      cases ik with
      | no n h nt zz =>
        wtm_at "vc"
        refine R.isiT false h nt ?_
        wtm_at "vc"
        exact Xn.rzP fx.plan (bad zz)
      | tup t us ex ht n zz =>
        subst ex
        wtm_at "vc"
        refine R.iteTr (by simp; omega) ?_
        wtm_at "vc"
        exact Xn.rzP fx.plan (bad zz)
      | two pa pb t pu pv ep et ht hu hv =>
        subst ep et
        wtm_at "vc"
        refine btw_call hu ?_
        cases b1 : btwD 0 1000000000 pa with
        | false =>
          wtm_at "vc"
          exact Xn.rzP fx.plan (bad (by show (btwD 0 1000000000 pa && btwD 1 1000000000 pb) = false; rw [b1]; rfl))
        | true =>
          wtm_at "vc"
          refine btw_call hv ?_
          cases b2 : btwD 1 1000000000 pb with
          | false =>
            wtm_at "vc"
            exact Xn.rzP fx.plan (bad (by show (btwD 0 1000000000 pa && btwD 1 1000000000 pb) = false; rw [b1, b2]; rfl))
          | true =>
            wtm_at "vc"
            refine ⟨_, _, rfl, e3, ?_⟩
            have ok : okItem (.tuple [pa, pb]) = true := by show (btwD 0 1000000000 pa && btwD 1 1000000000 pb) = true; rw [b1, b2]; rfl
            rw [ok] at eq2
            exact eq2
    · rintro σ H2 ⟨u, v, rfl, e2, eq⟩
      rw [dpAll_len hp, List.drop_length] at eq
      have eq2 : badAt ds 0 = none := eq
      rw [eq2] at k1
      exact k1 rfl _ e2
  have other : ∀ n, R.Pl K H x n → (n.isL || n.isT) = false → chkD d = .plan .non → t_require_sizes K E { nx := fun _ H' => Q .non H', rt := Q } (start ["sizes", "index", "item"] [x]) H := by
    intro n hpl hn hc
    unfold t_require_sizes
    wtm_at "vc"
    refine ⟨_, _, rfl, hpl, fun H1 e1 => ?_⟩
    rw [hn]
    wtm_at "vc"
    exact Xn.rzP fx.plan ((k2 _ hc).ex e1)
  cases hd with
  | non => exact other _ .non rfl rfl
  | bl b => exact other _ (.bl b) rfl rfl
  | int i => exact other _ (.int i) rfl rfl
  | str s => exact other _ (.str s) rfl rfl
  | lst h hs => exact main true _ _ _ rfl h hs rfl
  | tup h hs => exact main false _ _ _ rfl h hs rfl
/-! least_delay, padding: refused or done -/
theorem rows_of {K : PySem.W.Frag} {H : Hp} : ∀ {ds : List PyData} {xs : List V} {i : Nat}, DpAll K H xs ds → badAt ds i = none → ∃ ps, Prs K H xs ps ∧ POk ps
  | [], _, _, .nil, _ => ⟨[], ⟨rfl, fun i p h => by simp at h⟩, fun _ h => by simp at h⟩
  | d :: ds, _, i, .cons h hs, e => by
    have e2 : (if okItem d then badAt ds (i + 1) else some i) = none := e
    cases ho : okItem d with
    | false => rw [ho] at e2; cases e2
    | true =>
      rw [ho] at e2
      obtain ⟨ps, hp, hk⟩ := rows_of hs e2
      cases item_kind h with
      | no n _ _ z => rw [z] at ho; cases ho
      | tup t us _ _ _ z => rw [z] at ho; cases ho
      | two a b t u v ed ex ht hu hv =>
        subst ed ex
        have o2 : (btwD 0 1000000000 a && btwD 1 1000000000 b) = true := ho
        obtain ⟨o3, o4⟩ := Bool.and_eq_true_iff.mp o2
        cases hu with
        | int i1 =>
          cases hv with
          | int i2 =>
            have q1 : (decide (0 ≤ i1) && decide (i1 ≤ 1000000000)) = true := o3
            have q2 : (decide (1 ≤ i2) && decide (i2 ≤ 1000000000)) = true := o4
            simp only [Bool.and_eq_true, decide_eq_true_eq] at q1 q2
            refine ⟨(i1, i2) :: ps, ⟨by simp [hp.len], fun j p hj => ?_⟩, fun p hm => ?_⟩
            · cases j with
              | zero => cases hj; exact ⟨t, rfl, ht⟩
              | succ j => exact hp.at_ j p (by simpa using hj)
            · rcases List.mem_cons.mp hm with hm | hm
              · subst hm; exact ⟨q1.1, q1.2, q2.1, q2.2⟩
              · exact hk p hm
          | _ => cases o4
        | _ => cases o3
def dlen : PyData → Nat
  | .list l => l.length
  | .tuple l => l.length
  | _ => 0
theorem fine_rows {K : PySem.W.Frag} {H : Hp} {x : V} {d : PyData} (h : Dp K H x d) (e : chkD d = .fine) : ∃ l a xs ps, x = .ref a ∧ R.SqK K l H a xs ∧ Prs K H xs ps ∧ POk ps ∧ ps.length = dlen d := by
  have key : ∀ ds : List PyData, chkL ds = .fine → badAt ds 0 = none := fun ds h => by
    unfold chkL at h
    cases z : badAt ds 0 with
    | none => rfl
    | some i => rw [z] at h; cases h
  cases h with
  | lst h hs =>
    obtain ⟨ps, hp, hk⟩ := rows_of hs (key _ e)
    exact ⟨true, _, _, ps, rfl, h, hp, hk, by rw [← hp.len, dpAll_len hs]; rfl⟩
  | tup h hs =>
    obtain ⟨ps, hp, hk⟩ := rows_of hs (key _ e)
    exact ⟨false, _, _, ps, rfl, h, hp, hk, by rw [← hp.len, dpAll_len hs]; rfl⟩
  | _ => cases e
theorem int_of {K : PySem.W.Frag} {H : Hp} {y : V} {d : PyData} {lo hi : Int} (h : Dp K H y d) (e : btwD lo hi d = true) : ∃ i : Int, y = .int i ∧ lo ≤ i ∧ i ≤ hi := by
  cases h with
  | int i =>
    have q : (decide (lo ≤ i) && decide (i ≤ hi)) = true := e
    simp only [Bool.and_eq_true, decide_eq_true_eq] at q
    exact ⟨i, rfl, q.1, q.2⟩
  | _ => cases e
def sp_least_delay (K : PySem.W.Frag) : Sp := fun vs H Q E => ∃ x y d e, vs = [x, y] ∧ Dp K H x d ∧ Dp K H y e ∧ (chkD d = .fine → btwD 0 1000000000 e = true → ∀ v H', R.Ex H H' → Q v H') ∧
  (∀ v, chkD d = .plan v → Rs (He.ga K "InvalidPlan") "index" v E H) ∧ (chkD d = .fine → btwD 0 1000000000 e = false → Rs (He.ga K "InvalidNumber") "value" y E H)
theorem len_least_delay {K : PySem.W.Frag} (vs : List V) (H : Hp) (Q : VK) (E : XK) (h : sp_least_delay K vs H Q E) : vs.length = (["sizes", "rate"] : List Str).length := by
  obtain ⟨_, _, _, _, rfl, _⟩ := h; rfl
def t_least_delay (K : PySem.W.Frag) (E : XK) : TS :=
  (tSeq (tDrop (tCall (sp_require_sizes K) [] E (tCons (tVar 0) tNil)))
    (tSeq (tDrop (tCall (sp_require_number K) [] E (tCons (tVar 1) tNil)))
    (tSeq (tAsg (tTup (tCons (tC (.int 0)) (tCons (tC (.int 0)) (tCons (tC (.int 0)) tNil)))) (gTup K 3 (gCons (gName 2) (gCons (gName 3) (gCons (gName 4) gNil)))))
    (tSeq (tFor (U.iSeq K (tVar 0)) (gTup K 2 (gCons (gName 5) (gCons (gName 6) gNil)))
    (tSeq (tAug 3 (tVar 5) U.rIpAdd)
    (tSeq (tAsg (tCB U.rMax2 (tCons (tVar 2) (tCons (tOp U.rSub (tVar 3) (tVar 4)) tNil))) (gName 2))
    (tAug 4 (tOp U.rMul (tVar 1) (tVar 6)) U.rIpAdd))))
    (tRet (tVar 2))))))
theorem rd_least_delay {K : PySem.W.Frag} (_ : Fx K) (vs : List V) (H : Hp) (Q : VK) (E : XK) (h : sp_least_delay K vs H Q E) : t_least_delay K E { nx := fun _ H' => Q .non H', rt := Q } (start ["sizes", "rate", "found", "total", "delivered", "size", "length"] vs) H := by
  obtain ⟨x, y, dx, dy, rfl, hx, hy, k1, k2, k3⟩ := h
  unfold t_least_delay
  wtm_at "vc"
  refine ⟨x, dx, rfl, hx, fun hf H1 e1 => ?_, k2⟩
  wtm_at "vc"
  refine ⟨y, dy, rfl, dp_ex e1 hy, fun hb => ?_, fun hb => (k3 hf hb).ex e1⟩
  obtain ⟨l, a, xs, ps, rfl, hs, hp, hk, _⟩ := fine_rows hx hf
  obtain ⟨r, rfl, r0, r1⟩ := int_of hy hb
  have k := k1 hf hb
  wtm_at "vc"
  refine ⟨by decide, fun T nT => ?_⟩
  have e2 := e1.tr (R.Ex.new (o := .tup [.int 0, .int 0, .int 0]) nT)
  wtm_at "vc"
  refine R.forSV rfl (e2.k hs) (fun i σ H' => ∃ f t d u v, σ = [some (.ref a), some (.int r), some (.int f), some (.int t), some (.int d), u, v] ∧ R.Ex H H') ⟨0, 0, 0, none, none, rfl, e2⟩ (fun i σ H2 _ ⟨_, _, _, _, _, _, e⟩ => e.k hs) ?_ ?_
  · rintro i x σ H2 hx ⟨f, t, d, u, v, rfl, e3⟩
    obtain ⟨p, tt, hp2, rfl, ht⟩ := (hp.ex e3).get hx
    wtm_at "vc"
    exact ⟨_, _, _, _, _, rfl, e3⟩
  · rintro σ H2 ⟨f, t, d, u, v, rfl, e3⟩
    wtm_at "vc"
    exact k _ _ e3
inductive PadR where
  | pair (a b : Int)
  | row (l : List Int)
def padR (r st : Int) (n : Nat) : List (Int × Int) → Nat → Int → Int → Int → List Int → PadR
  | [], _, _, _, _, acc => .row acc
  | p :: ps, i, t, a, f, acc =>
    let late := a + r * p.2
    let add := if (i : Int) + 1 < (n : Int) then (if late - (t + p.1) - st > 0 then late - (t + p.1) - st else 0) else 0
    if t + p.1 + add > a then .pair f i
    else padR r st n ps (i + 1) (t + p.1 + add) late (if add > 0 then (i : Int) + 1 else f) (acc ++ [add])
def firstBad : List (V × PyData) → Option V
  | [] => none
  | p :: r => if btwD 0 1000000000 p.2 then firstBad r else some p.1
def sp_padding (K : PySem.W.Frag) : Sp := fun vs H Q E => ∃ x d y1 d1 y2 d2 y3 d3, vs = [x, y1, y2, y3] ∧ Dp K H x d ∧ Dp K H y1 d1 ∧ Dp K H y2 d2 ∧ Dp K H y3 d3 ∧ dlen d ≤ 1000 ∧ (chkD d = .fine → firstBad [(y1, d1), (y2, d2), (y3, d3)] = none → ∀ v H', R.Ex H H' → Q v H') ∧
  (∀ v, chkD d = .plan v → Rs (He.ga K "InvalidPlan") "index" v E H) ∧ (∀ v, chkD d = .fine → firstBad [(y1, d1), (y2, d2), (y3, d3)] = some v → Rs (He.ga K "InvalidNumber") "value" v E H)
theorem len_padding {K : PySem.W.Frag} (vs : List V) (H : Hp) (Q : VK) (E : XK) (h : sp_padding K vs H Q E) : vs.length = (["sizes", "rate", "delay", "store"] : List Str).length := by
  obtain ⟨_, _, _, _, _, _, _, _, rfl, _⟩ := h; rfl
def t_padding (K : PySem.W.Frag) (E : XK) : TS :=
  (tSeq (tDrop (tCall (sp_require_sizes K) [] E (tCons (tVar 0) tNil)))
    (tSeq (tFor (U.iSeq K (tTup (tCons (tVar 1) (tCons (tVar 2) (tCons (tVar 3) tNil))))) (gName 4)
    (tDrop (tCall (sp_require_number K) [] E (tCons (tVar 4) tNil))))
    (tSeq (tAsg (tLst tNil) (gName 5))
    (tSeq (tPar3 6 7 8 (tCons (tC (.int 0)) (tCons (tVar 2) (tCons (tC (.int 0)) tNil))))
    (tSeq (tFor (U.iEn K (tCons (tVar 0) tNil)) (gTup K 2 (gCons (gName 9) (gCons (gTup K 2 (gCons (gName 12) (gCons (gName 13) gNil))) gNil)))
    (tSeq (tAug 6 (tVar 12) U.rIpAdd)
    (tSeq (tAsg (tOp (U.rAdd K) (tVar 7) (tOp U.rMul (tVar 1) (tVar 13))) (gName 10))
    (tSeq (tAsg (tIf (tTest (tOp U.rLt (tOp (U.rAdd K) (tVar 9) (tC (.int 1))) (tCB (U.rLen K) (tCons (tVar 0) tNil)))) (tCB U.rMax2 (tCons (tC (.int 0)) (tCons (tOp U.rSub (tOp U.rSub (tVar 10) (tVar 6)) (tVar 3)) tNil))) (tC (.int 0))) (gName 11))
    (tSeq (tAug 6 (tVar 11) U.rIpAdd)
    (tSeq (tIfS (tTest (tOp U.rGt (tVar 6) (tVar 7))) (tRet (tTup (tCons (tVar 8) (tCons (tVar 9) tNil))))
    tNext)
    (tSeq (tIfS (tTest (tOp U.rGt (tVar 11) (tC (.int 0)))) (tAsg (tOp (U.rAdd K) (tVar 9) (tC (.int 1))) (gName 8))
    tNext)
    (tSeq (tDrop (tBM K "list" rAppend (tVar 5) (tCons (tVar 11) tNil)))
    (tAsg (tVar 10) (gName 7))))))))))
    (tRet (tVar 5)))))))
theorem map_snoc (l : List Int) (a : Int) : l.map V.int ++ [V.int a] = (l ++ [a]).map V.int := by simp
theorem pad_tail {H : Hp} {D : Ends} {q : Addr} {xa xr xd xs xv u12 u13 : Option V} {t ar f late add : Int} {i : Nat} {acc : List Int} {K : PySem.W.Frag} (hq : H q = some (.lst (acc.map V.int))) (hl : acc.length < 2000000)
    (h1 : t + add > ar → ∀ T, H T = none → D.rt (.ref T) (upd H T (.tup [.int f, .int i])))
    (h2 : ¬ t + add > ar → D.nx [xa, xr, xd, xs, xv, some (.ref q), some (.int (t + add)), some (.int late), some (.int (if add > 0 then (i : Int) + 1 else f)), some (.int i), some (.int late), some (.int add), u12, u13] (upd H q (.lst ((acc ++ [add]).map V.int)))) :
    (tSeq (tAug 6 (tVar 11) U.rIpAdd)
    (tSeq (tIfS (tTest (tOp U.rGt (tVar 6) (tVar 7))) (tRet (tTup (tCons (tVar 8) (tCons (tVar 9) tNil))))
    tNext)
    (tSeq (tIfS (tTest (tOp U.rGt (tVar 11) (tC (.int 0)))) (tAsg (tOp (U.rAdd K) (tVar 9) (tC (.int 1))) (gName 8))
    tNext)
    (tSeq (tDrop (tBM K "list" rAppend (tVar 5) (tCons (tVar 11) tNil)))
    (tAsg (tVar 10) (gName 7)))))) D [xa, xr, xd, xs, xv, some (.ref q), some (.int t), some (.int ar), some (.int f), some (.int i), some (.int late), some (.int add), u12, u13] H := by
  have hl2 : (acc.map V.int).length < sizeLine := by rw [sizeLine_eq, List.length_map]; omega
  rw [← map_snoc] at h2
  wtm_at "vc"
  (with_reducible refine R.ifd ?_ ?_) <;> intro h
  · wtm_at "vc"
    exact ⟨by show 2 ≤ sizeLine; decide, fun T nT => h1 h T nT⟩
  · wtm_at "vc"
    (with_reducible refine R.ifd ?_ ?_) <;> intro h3
    · rw [if_pos h3] at h2
      wtm_at "vc"
      exact h2 h
    · rw [if_neg h3] at h2
      wtm_at "vc"
      exact h2 h
theorem rd_padding {K : PySem.W.Frag} (_ : Fx K) (vs : List V) (H : Hp) (Q : VK) (E : XK) (h : sp_padding K vs H Q E) : t_padding K E { nx := fun _ H' => Q .non H', rt := Q } (start ["sizes", "rate", "delay", "store", "value", "found", "total", "arrived", "first", "frame", "later", "added", "size", "length"] vs) H := by
  obtain ⟨x, d, y1, d1, y2, d2, y3, d3, rfl, hx, h1, h2, h3, hdl, k1, k2, k3⟩ := h
  unfold t_padding
  wtm_at "vc"
  refine ⟨x, d, rfl, hx, fun hf H1 e1 => ?_, k2⟩
  obtain ⟨l, a, xs, ps, rfl, hs, hp, hk, hpl⟩ := fine_rows hx hf
  have k1 := k1 hf
  have k3 := fun v => k3 v hf
  have hlen : ps.length ≤ 1000000 := by omega
  wtm_at "vc"
  refine R.forTe ?_
  wtm_at "vc"
  refine ⟨by show 3 ≤ sizeLine; decide, fun T nT => ?_⟩
  have e2 := e1.tr (R.Ex.new (o := .tup [y1, y2, y3]) nT)
  have hT : (upd H1 T (.tup [y1, y2, y3])) T = some (.tup [y1, y2, y3]) := upd_same
  generalize upd H1 T (.tup [y1, y2, y3]) = H2 at *
  generalize hfb : firstBad [(y1, d1), (y2, d2), (y3, d3)] = fb at *
  refine R.tupP (SqT.of hT) (fun i σ H' => ∃ v, σ = [some (.ref a), some y1, some y2, some y3, v, none, none, none, none, none, none, none, none, none] ∧ H' = H2 ∧ firstBad ([(y1, d1), (y2, d2), (y3, d3)].drop i) = fb) ⟨none, rfl, rfl, hfb⟩ (fun i σ H3 _ ⟨_, _, e, _⟩ => e ▸ SqT.of hT) ?_ ?_
  · rintro i x σ H3 hx3 ⟨v, rfl, rfl, eq⟩
    have hz : ∃ dd, Dp K H x dd ∧ [(y1, d1), (y2, d2), (y3, d3)].drop i = (x, dd) :: [(y1, d1), (y2, d2), (y3, d3)].drop (i + 1) := by
      match i, hx3 with
      | 0, h => cases h; exact ⟨d1, h1, rfl⟩
      | 1, h => cases h; exact ⟨d2, h2, rfl⟩
      | 2, h => cases h; exact ⟨d3, h3, rfl⟩
      | n + 3, h => simp at h
    obtain ⟨dd, hdd, hdrop⟩ := hz
    rw [hdrop] at eq
    have eq2 : (if btwD 0 1000000000 dd then firstBad ([(y1, d1), (y2, d2), (y3, d3)].drop (i + 1)) else some x) = fb := eq
    wtm_at "vc"
    refine ⟨x, dd, rfl, dp_ex e2 hdd, fun hb => ?_, fun hb => ?_⟩
    · rw [hb] at eq2
      exact ⟨_, rfl, rfl, eq2⟩
    · rw [hb] at eq2
      exact (k3 x eq2.symm).ex e2
  rintro σ H3 ⟨v, rfl, rfl, eq⟩
  have eq2 : none = fb := eq
  rw [← eq2] at hfb
  have k := k1 eq2.symm
  have f1 : (if btwD 0 1000000000 d1 then (if btwD 0 1000000000 d2 then (if btwD 0 1000000000 d3 then none else some y3) else some y2) else some y1) = none := hfb
  have b1 : btwD 0 1000000000 d1 = true := by
    cases z : btwD 0 1000000000 d1 with
    | true => rfl
    | false => rw [z] at f1; cases f1
  rw [b1] at f1
  have f2 : (if btwD 0 1000000000 d2 then (if btwD 0 1000000000 d3 then none else some y3) else some y2) = none := f1
  have b2 : btwD 0 1000000000 d2 = true := by
    cases z : btwD 0 1000000000 d2 with
    | true => rfl
    | false => rw [z] at f2; cases f2
  rw [b2] at f2
  have f3 : (if btwD 0 1000000000 d3 then none else some y3) = none := f2
  have b3 : btwD 0 1000000000 d3 = true := by
    cases z : btwD 0 1000000000 d3 with
    | true => rfl
    | false => rw [z] at f3; cases f3
  obtain ⟨r, rfl, r0, r1⟩ := int_of h1 b1
  obtain ⟨dl, rfl, _, _⟩ := int_of h2 b2
  obtain ⟨st, rfl, _, _⟩ := int_of h3 b3
  wtm_at "vc"
  refine ⟨by decide, fun q nq => ?_⟩
  wtm_at "vc"
  have e3 := e2.tr (R.Ex.new (o := .lst []) nq)
  refine R.forEn rfl (e3.k hs) (fun i σ H' => ∃ t ar f u9 u10 u11 u12 u13 acc, σ = [some (.ref a), some (.int r), some (.int dl), some (.int st), v, some (.ref q), some (.int t), some (.int ar), some (.int f), u9, u10, u11, u12, u13] ∧ R.Ex H H' ∧ H' q = some (.lst (acc.map V.int)) ∧ acc.length = i ∧ padR r st ps.length (ps.drop i) i t ar f acc = padR r st ps.length ps 0 0 dl 0 [])
    ⟨0, dl, 0, none, none, none, none, none, [], rfl, e3, upd_same, rfl, rfl⟩ (fun i σ H2 _ ⟨_, _, _, _, _, _, _, _, _, _, e, _⟩ => e.k hs) ?_ ?_
  · rintro i x T2 σ H4 hx ⟨t, ar, f, u9, u10, u11, u12, u13, acc, rfl, e4, hq, ha, eq⟩ nT2
    obtain ⟨p, tt, hp2, rfl, ht⟩ := (hp.ex e4).get hx
    rw [R.drop_cons hp2] at eq
    have e5 := e4.tr (R.Ex.new (o := .tup [.int (i : Nat), .ref tt]) nT2)
    have hq2 : (upd H4 T2 (.tup [.int (i : Nat), .ref tt])) q = some (.lst (acc.map V.int)) := R.updOld nT2 hq
    have ht2 := (R.Ex.new (o := .tup [.int (i : Nat), .ref tt]) nT2).t ht
    have hT2 : (upd H4 T2 (.tup [.int (i : Nat), .ref tt])) T2 = some (.tup [.int (i : Nat), .ref tt]) := upd_same
    have hs5 := e5.k hs
    generalize upd H4 T2 (.tup [.int (i : Nat), .ref tt]) = H5 at *
    wtm_at "vc"
    have acc_le : acc.length < 1000000 := by have := (List.getElem?_eq_some_iff.mp hp2).1; omega
    have fin : ∀ add : Int, add = (if (i : Int) + 1 < (ps.length : Int) then (if ar + r * p.2 - (t + p.1) - st > 0 then ar + r * p.2 - (t + p.1) - st else 0) else 0) →
        (if t + p.1 + add > ar then PadR.pair f i else padR r st ps.length (ps.drop (i + 1)) (i + 1) (t + p.1 + add) (ar + r * p.2) (if add > 0 then (i : Int) + 1 else f) (acc ++ [add])) = padR r st ps.length ps 0 0 dl 0 [] := by
      rintro add rfl; exact eq
    (with_reducible refine R.ifd ?_ ?_) <;> intro h
    · wtm_at "vs"
      have fin := fin _ (by rw [if_pos (by rw [← hp.len]; exact h)])
      refine pad_tail hq2 (by omega) (fun h T nT => ?_) (fun h => ?_)
      · rw [if_pos h] at fin
        exact k _ _ (e5.tr (R.Ex.new nT))
      · rw [if_neg h] at fin
        exact ⟨_, _, _, _, _, _, _, _, _, rfl, e5.mut (e2.free nq), upd_same, by simp [ha], fin⟩
    · wtm_at "vs"
      have fin := fin 0 (by rw [if_neg (by rw [← hp.len]; exact h)])
      refine pad_tail hq2 (by omega) (fun h T nT => ?_) (fun h => ?_)
      · rw [if_pos h] at fin
        exact k _ _ (e5.tr (R.Ex.new nT))
      · rw [if_neg h] at fin
        exact ⟨_, _, _, _, _, _, _, _, _, rfl, e5.mut (e2.free nq), upd_same, by simp [ha], fin⟩
  · rintro σ H4 ⟨t, ar, f, u9, u10, u11, u12, u13, acc, rfl, e4, hq, ha, eq⟩
    rw [hp.len, List.drop_length] at eq
    wtm_at "vc"
    exact k _ _ e4

/-! what _law_told makes of a call -/
def lamT (K : PySem.W.Frag) : List (Addr × Str) := [(He.tabOf K (He.codeOf K ("law", none)), ((("law" : Str) ++ ".<locals>.") ++ "<lambda>"))]
def gotE (C : Addr) (f s : Str) (Q : VK) : XK := fun cls d H' => cls = .ref C ∧ ∃ dd x, d = some dd ∧ H' dd = some (.xd [(f, x)]) ∧ ∀ p, H' p = none → Q (.ref p) (upd H' p (.lst [.str s, x]))
def TT_law_told (K : PySem.W.Frag) : (XK → Hp → VK → Prop) → Hp → VK → Prop := fun tl H Q =>
  tl (fun cls d H' => gotE (He.ga K "InvalidPlan") "index" "plan" Q cls d H' ∨ gotE (He.ga K "InvalidNumber") "value" "number" Q cls d H') H (fun _ H' => [V.str "fine", V.non].length ≤ sizeLine ∧ ∀ p, H' p = none → Q (.ref p) (upd H' p (.lst [.str "fine", .non])))
theorem told_K {K : PySem.W.Frag} (m1 : PySem.W.exmOne K (.ref (He.ga K "InvalidPlan")) (.ref (He.ga K "InvalidPlan")) = some true) (m2 : PySem.W.exmOne K (.ref (He.ga K "InvalidNumber")) (.ref (He.ga K "InvalidPlan")) = some false)
    (m3 : PySem.W.exmOne K (.ref (He.ga K "InvalidNumber")) (.ref (He.ga K "InvalidNumber")) = some true) (k1 : PySem.W.kitOne K (.ref (He.ga K "InvalidPlan")) (.ref (He.ga K "JoinError")) = some true) (k2 : PySem.W.kitOne K (.ref (He.ga K "InvalidPlan")) (.ref (He.ga K "InvalidNumber")) = some false)
    (k3 : PySem.W.kitOne K (.ref (He.ga K "InvalidNumber")) (.ref (He.ga K "JoinError")) = some true) (k4 : PySem.W.kitOne K (.ref (He.ga K "InvalidNumber")) (.ref (He.ga K "InvalidPlace")) = some false) (fx : Fx K)
    (f c' : Addr) (H : Hp) (Q : VK) (q : Str) (tl : XK → Hp → VK → Prop) (hc : H c' = some (LamX.CodeO c' q)) (h : TT_law_told K tl H Q) :
    (tSeq (Xn.tTry K C8.E0 (fun W => (tDrop (fun σ H Q => ∃ Ech : XK, (∀ cls d H, Ech cls d H → Xn.EW 2 W cls d H) ∧ (σ[0]? = some (some (.ref f)) ∧ H c' = some (LamX.CodeO c' q) ∧ tl Ech H Q)))) [(.ref (He.ga K "InvalidPlan"), 1, fun a cls d => (tRet (tIf (tAnd (tB (tCB (Xn.rIsX K a cls d) (tCons (tVar 1) (tCons (tC (.ref (He.ga K "JoinError"))) tNil)))) (tNot (tB (tCB (Xn.rIsX K a cls d) (tCons (tVar 1) (tCons (tC (.ref (He.ga K "InvalidNumber"))) tNil)))))) (tLst (tCons (tC (.str "plan")) (tCons (tXf a cls d (He.ga K "InvalidPlan") "index" (tVar 1)) tNil))) (tC .non)))), (.ref (He.ga K "InvalidNumber"), 1, fun a cls d => (tRet (tIf (tAnd (tB (tCB (Xn.rIsX K a cls d) (tCons (tVar 1) (tCons (tC (.ref (He.ga K "JoinError"))) tNil)))) (tNot (tB (tCB (Xn.rIsX K a cls d) (tCons (tVar 1) (tCons (tC (.ref (He.ga K "InvalidPlace"))) tNil)))))) (tLst (tCons (tC (.str "number")) (tCons (tXf a cls d (He.ga K "InvalidNumber") "value" (tVar 1)) tNil))) (tC .non))))])
    (tRet (tLst (tCons (tC (.str "fine")) (tCons (tC .non) tNil))))) { nx := fun _ H' => Q .non H', rt := Q } (start ["call", "e"] [.ref f]) H := by
  refine ⟨_, fun cls d H' hE => ?_, rfl, hc, h⟩
  rcases hE with ⟨rfl, dd, x, rfl, hd, k⟩ | ⟨rfl, dd, x, rfl, hd, k⟩
  · refine ⟨true, m1, fun _ a na => ?_, fun z => absurd z (by decide)⟩
    refine R.ret ?_
    refine R.ifE ?_
    wtm_at "vc"
    refine ⟨_, dd, _, _, _, true, rfl, rfl, fx.plan.ec, rfl, fun u r => r, k1, hd, ?_⟩
    wtm_at "vc"
    refine ⟨_, dd, _, _, _, false, rfl, rfl, fx.plan.ec, rfl, fun u r => r, k2, hd, ?_⟩
    wtm_at "vc"
    refine ⟨_, rfl, rfl, rfl, dd, _, x, rfl, hd, rfl, ?_⟩
    exact ⟨by show 2 ≤ sizeLine; decide, fun p np => k p np⟩
  · refine ⟨false, m2, fun z => absurd z (by decide), fun _ => ?_⟩
    refine ⟨true, m3, fun _ a na => ?_, fun z => absurd z (by decide)⟩
    refine R.ret ?_
    refine R.ifE ?_
    wtm_at "vc"
    refine ⟨_, dd, _, _, _, true, rfl, rfl, fx.num.ec, rfl, fun u r => r, k3, hd, ?_⟩
    wtm_at "vc"
    refine ⟨_, dd, _, _, _, false, rfl, rfl, fx.num.ec, rfl, fun u r => r, k4, hd, ?_⟩
    wtm_at "vc"
    refine ⟨_, rfl, rfl, rfl, dd, _, x, rfl, hd, rfl, ?_⟩
    exact ⟨by show 2 ≤ sizeLine; decide, fun p np => k p np⟩

/-! _law_is_between, _law_due -/
def sp_law_is_between (K : PySem.W.Frag) : Sp := fun vs H Q _ => ∃ x lo hi d, vs = [x, .int lo, .int hi] ∧ Dp K H x d ∧ Q (.bl (btwD lo hi d)) H
theorem len_law_is_between {K : PySem.W.Frag} (vs : List V) (H : Hp) (Q : VK) (E : XK) (h : sp_law_is_between K vs H Q E) : vs.length = (["one", "least", "most"] : List Str).length := by
  obtain ⟨_, _, _, _, rfl, _⟩ := h; rfl
def t_law_is_between (K : PySem.W.Frag) (E : XK) : TS :=
  (tRet (tAndV (tCB (rIsi K) (tCons (tVar 0) (tCons (tC (.ty "int")) tNil))) (tAndV (tNotV (tCB (rIsi K) (tCons (tVar 0) (tCons (tC (.ty "bool")) tNil)))) (tChain U.rLe U.rLe (tVar 1) (tVar 0) (tVar 2)))))
theorem rd_law_is_between {K : PySem.W.Frag} (vs : List V) (H : Hp) (Q : VK) (E : XK) (h : sp_law_is_between K vs H Q E) : t_law_is_between K E { nx := fun _ H' => Q .non H', rt := Q } (start ["one", "least", "most"] vs) H := by
  obtain ⟨x, lo, hi, d, rfl, hd, k⟩ := h
  unfold t_law_is_between
  cases hd with
  | int i =>
    wtm_at "vc"
    refine R.ifd ?_ ?_ <;> intro h
    · wtm_at "vc"
      have e : btwD lo hi (.int i) = decide (i ≤ hi) := by show (decide (lo ≤ i) && decide (i ≤ hi)) = _; rw [decide_eq_true h]; rfl
      rw [e] at k
      exact k
    · have e : btwD lo hi (.int i) = false := by show (decide (lo ≤ i) && decide (i ≤ hi)) = _; rw [decide_eq_false h]; rfl
      rw [e] at k
      exact k
  | lst h _ => wtm_at "vc"; exact k
  | tup h _ => wtm_at "vc"; exact k
  | _ => wtm_at "vc"; exact k
def dueL (d : PyData) (yd : List (V × PyData)) : List V := match chkD d with
  | .plan v => [.str "plan", v]
  | .fine => (match firstBad yd with
    | some x => [.str "number", x]
    | none => [.str "fine", .non])
def sp_law_due (K : PySem.W.Frag) : Sp := fun vs H Q _ => ∃ x d n yd, vs = [x, .ref n] ∧ Dp K H x d ∧ SqL K H n (yd.map Prod.fst) ∧ (∀ p ∈ yd, Dp K H p.1 p.2) ∧
  ∀ p H', R.Ex H H' → H' p = some (.lst (dueL d yd)) → Q (.ref p) H'
theorem len_law_due {K : PySem.W.Frag} (vs : List V) (H : Hp) (Q : VK) (E : XK) (h : sp_law_due K vs H Q E) : vs.length = (["given", "numbers"] : List Str).length := by
  obtain ⟨_, _, _, _, rfl, _⟩ := h; rfl
def t_law_due (K : PySem.W.Frag) (E : XK) : TS :=
  (tSeq (tIfS (tAnd (tNot (tB (tCB (rIsi K) (tCons (tVar 0) (tCons (tC (.ty "list")) tNil))))) (tNot (tB (tCB (rIsi K) (tCons (tVar 0) (tCons (tC (.ty "tuple")) tNil)))))) (tRet (tLst (tCons (tC (.str "plan")) (tCons (tC .non) tNil))))
    tNext)
    (tSeq (tFor (U.iEn K (tCons (tVar 0) tNil)) (gTup K 2 (gCons (gName 3) (gCons (gName 4) gNil)))
    (tSeq (tIfS (tOr (tNot (tB (tCB (rIsi K) (tCons (tVar 4) (tCons (tC (.ty "tuple")) tNil))))) (tTest (tOp (U.rNeU K) (tCB (U.rLen K) (tCons (tVar 4) tNil)) (tC (.int 2))))) (tRet (tLst (tCons (tC (.str "plan")) (tCons (tVar 3) tNil))))
    tNext)
    (tIfS (tOr (tNot (tB (tCall (sp_law_is_between K) [] E (tCons (tOp (rIx K) (tVar 4) (tC (.int 0))) (tCons (tC (.int 0)) (tCons (tOp U.rPow (tC (.int 10)) (tC (.int 9))) tNil)))))) (tNot (tB (tCall (sp_law_is_between K) [] E (tCons (tOp (rIx K) (tVar 4) (tC (.int 1))) (tCons (tC (.int 1)) (tCons (tOp U.rPow (tC (.int 10)) (tC (.int 9))) tNil))))))) (tRet (tLst (tCons (tC (.str "plan")) (tCons (tVar 3) tNil))))
    tNext)))
    (tSeq (tFor (U.iSeq K (tVar 1)) (gName 2)
    (tIfS (tNot (tB (tCall (sp_law_is_between K) [] E (tCons (tVar 2) (tCons (tC (.int 0)) (tCons (tOp U.rPow (tC (.int 10)) (tC (.int 9))) tNil)))))) (tRet (tLst (tCons (tC (.str "number")) (tCons (tVar 2) tNil))))
    tNext))
    (tRet (tLst (tCons (tC (.str "fine")) (tCons (tC .non) tNil)))))))
theorem due_numbers {K : PySem.W.Frag} {E : XK} {D : Ends} {H H' : Hp} {x : V} {d : PyData} {n : Addr} {yd : List (V × PyData)} {u2 u3 u4 : Option V} (hc : chkD d = .fine) (e : R.Ex H H') (hn : SqL K H n (yd.map Prod.fst)) (hy : ∀ p ∈ yd, Dp K H p.1 p.2)
    (k : ∀ p H', R.Ex H H' → H' p = some (.lst (dueL d yd)) → D.rt (.ref p) H') :
    (tSeq (tFor (U.iSeq K (tVar 1)) (gName 2)
    (tIfS (tNot (tB (tCall (sp_law_is_between K) [] E (tCons (tVar 2) (tCons (tC (.int 0)) (tCons (tOp U.rPow (tC (.int 10)) (tC (.int 9))) tNil)))))) (tRet (tLst (tCons (tC (.str "number")) (tCons (tVar 2) tNil))))
    tNext))
    (tRet (tLst (tCons (tC (.str "fine")) (tCons (tC .non) tNil))))) D [some x, some (.ref n), u2, u3, u4] H' := by
  unfold dueL at k
  rw [hc] at k
  refine R.seq ?_
  refine R.forLV rfl (e.l hn) (fun i σ H' => ∃ u2, σ = [some x, some (.ref n), u2, u3, u4] ∧ R.Ex H H' ∧ firstBad (yd.drop i) = firstBad yd) ⟨u2, rfl, e, rfl⟩ (fun i σ H2 _ ⟨_, _, e, _⟩ => e.l hn) ?_ ?_
  · rintro i y σ H2 hx ⟨u2, rfl, e2, eq⟩
    rw [List.getElem?_map] at hx
    cases hp : yd[i]? with
    | none => rw [hp] at hx; cases hx
    | some p =>
      rw [hp] at hx
      have hy2 : p.1 = y := Option.some.inj hx
      subst hy2
      rw [R.drop_cons hp] at eq
      have eq2 : (if btwD 0 1000000000 p.2 then firstBad (yd.drop (i + 1)) else some p.1) = firstBad yd := eq
      have hpd := dp_ex e2 (hy p (List.mem_of_getElem? hp))
      wtm_at "vc"
      refine ⟨p.1, 0, 1000000000, p.2, rfl, hpd, ?_⟩
      cases hb : btwD 0 1000000000 p.2 with
      | true =>
        rw [hb] at eq2
        wtm_at "vc"
        exact ⟨_, rfl, e2, eq2⟩
      | false =>
        rw [hb] at eq2
        have eq3 : some p.1 = firstBad yd := eq2
        rw [← eq3] at k
        wtm_at "vc"
        exact ⟨by show 2 ≤ sizeLine; decide, fun q nq => k q _ (e2.tr (R.Ex.new nq)) upd_same⟩
  · rintro σ H2 ⟨u2, rfl, e2, eq⟩
    rw [List.length_map, List.drop_length] at eq
    have eq2 : none = firstBad yd := eq
    rw [← eq2] at k
    wtm_at "vc"
    exact ⟨by show 2 ≤ sizeLine; decide, fun q nq => k q _ (e2.tr (R.Ex.new nq)) upd_same⟩
theorem rd_law_due {K : PySem.W.Frag} (vs : List V) (H : Hp) (Q : VK) (E : XK) (h : sp_law_due K vs H Q E) : t_law_due K E { nx := fun _ H' => Q .non H', rt := Q } (start ["given", "numbers", "one", "at", "item"] vs) H := by
  obtain ⟨x, d, n, yd, rfl, hd, hn, hy, k⟩ := h
  have main : ∀ (l : Bool) (a : Addr) (xs : List V) (ds : List PyData), x = .ref a → R.SqK K l H a xs → DpAll K H xs ds → chkD d = chkL ds → t_law_due K E { nx := fun _ H' => Q .non H', rt := Q } (start ["given", "numbers", "one", "at", "item"] [x, .ref n]) H := by
    intro l a xs ds ex hs hp hc
    subst ex
    unfold t_law_due
    have hpl : R.Pl K H (.ref a) (if l = true then .lst else .tup) := hs.pl
    have body : ∀ D : Ends, D.rt = Q → (tSeq (tFor (U.iEn K (tCons (tVar 0) tNil)) (gTup K 2 (gCons (gName 3) (gCons (gName 4) gNil)))
    (tSeq (tIfS (tOr (tNot (tB (tCB (rIsi K) (tCons (tVar 4) (tCons (tC (.ty "tuple")) tNil))))) (tTest (tOp (U.rNeU K) (tCB (U.rLen K) (tCons (tVar 4) tNil)) (tC (.int 2))))) (tRet (tLst (tCons (tC (.str "plan")) (tCons (tVar 3) tNil))))
    tNext)
    (tIfS (tOr (tNot (tB (tCall (sp_law_is_between K) [] E (tCons (tOp (rIx K) (tVar 4) (tC (.int 0))) (tCons (tC (.int 0)) (tCons (tOp U.rPow (tC (.int 10)) (tC (.int 9))) tNil)))))) (tNot (tB (tCall (sp_law_is_between K) [] E (tCons (tOp (rIx K) (tVar 4) (tC (.int 1))) (tCons (tC (.int 1)) (tCons (tOp U.rPow (tC (.int 10)) (tC (.int 9))) tNil))))))) (tRet (tLst (tCons (tC (.str "plan")) (tCons (tVar 3) tNil))))
    tNext)))
    (tSeq (tFor (U.iSeq K (tVar 1)) (gName 2)
    (tIfS (tNot (tB (tCall (sp_law_is_between K) [] E (tCons (tVar 2) (tCons (tC (.int 0)) (tCons (tOp U.rPow (tC (.int 10)) (tC (.int 9))) tNil)))))) (tRet (tLst (tCons (tC (.str "number")) (tCons (tVar 2) tNil))))
    tNext))
    (tRet (tLst (tCons (tC (.str "fine")) (tCons (tC .non) tNil)))))) D [some (.ref a), some (.ref n), none, none, none] H := by
      intro D hD
      refine R.seq ?_
      refine R.forEn rfl hs (fun i σ H' => ∃ u v, σ = [some (.ref a), some (.ref n), none, u, v] ∧ R.Ex H H' ∧ badAt ds 0 = badAt (ds.drop i) i) ⟨none, none, rfl, R.Ex.refl H, rfl⟩ (fun i σ H2 _ ⟨_, _, _, e, _⟩ => e.k hs) ?_ ?_
      · rintro i x T σ H2 hx ⟨u, v, rfl, e2, eq⟩ nT
        obtain ⟨p, hp2, hdx⟩ := dpAll_at hp hx
        have e3 := e2.tr (R.Ex.new (o := .tup [.int (i : Nat), x]) nT)
        have hT : (upd H2 T (.tup [.int (i : Nat), x])) T = some (.tup [.int (i : Nat), x]) := upd_same
        have ik := (item_kind hdx).ex e3
        rw [R.drop_cons hp2] at eq
        generalize upd H2 T (.tup [.int (i : Nat), x]) = H3 at *
        have eq2 : badAt ds 0 = if okItem p then badAt (ds.drop (i + 1)) (i + 1) else some i := eq
        have bad : okItem p = false → ∀ q, H3 q = none → D.rt (.ref q) (upd H3 q (.lst [.str "plan", .int (i : Nat)])) := fun h q nq => by
          rw [h] at eq2
          have eq3 : badAt ds 0 = some i := eq2
          have hd2 : dueL d yd = [.str "plan", .int (i : Nat)] := by
            unfold dueL
            rw [hc]
            unfold chkL
            rw [eq3]
          rw [hD]
          exact k q _ (e3.tr (R.Ex.new nq)) (by rw [hd2]; exact upd_same)
        cases ik with
        | no n h nt zz =>
          wtm_at "vc"
          refine R.isiT false h nt ?_
          wtm_at "vc"
          exact ⟨by show 2 ≤ sizeLine; decide, bad zz⟩
        | tup t us ex ht n zz =>
          subst ex
          wtm_at "vc"
          refine R.iteTr (by simp; omega) ?_
          wtm_at "vc"
          exact ⟨by show 2 ≤ sizeLine; decide, bad zz⟩
        | two pa pb t pu pv ep et ht hu hv =>
          subst ep et
          wtm_at "vc"
          refine ⟨pu, _, _, pa, rfl, hu, ?_⟩
          cases b1 : btwD 0 1000000000 pa with
          | false =>
            wtm_at "vc"
            exact ⟨by show 2 ≤ sizeLine; decide, bad (by show (btwD 0 1000000000 pa && btwD 1 1000000000 pb) = false; rw [b1]; rfl)⟩
          | true =>
            wtm_at "vc"
            refine ⟨pv, _, _, pb, rfl, hv, ?_⟩
            cases b2 : btwD 1 1000000000 pb with
            | false =>
              wtm_at "vc"
              exact ⟨by show 2 ≤ sizeLine; decide, bad (by show (btwD 0 1000000000 pa && btwD 1 1000000000 pb) = false; rw [b1, b2]; rfl)⟩
            | true =>
              wtm_at "vc"
              refine ⟨_, _, rfl, e3, ?_⟩
              have ok : okItem (.tuple [pa, pb]) = true := by show (btwD 0 1000000000 pa && btwD 1 1000000000 pb) = true; rw [b1, b2]; rfl
              rw [ok] at eq2
              exact eq2
      · rintro σ H2 ⟨u, v, rfl, e2, eq⟩
        rw [dpAll_len hp, List.drop_length] at eq
        have eq2 : badAt ds 0 = none := eq
        have hc2 : chkD d = .fine := by rw [hc]; unfold chkL; rw [eq2]
        exact due_numbers hc2 e2 hn hy (by rw [show _ = Q from hD]; exact k)
    cases l with
    | true => wtm_at "vc"; exact body _ rfl
    | false => wtm_at "vc"; exact body _ rfl
  have other : chkD d = .plan .non → ∀ p, H p = none → Q (.ref p) (upd H p (.lst [.str "plan", .non])) := fun hc p np => by
    refine k p _ (R.Ex.new np) ?_
    unfold dueL
    rw [hc]
    exact upd_same
  have other2 : ∀ n2, R.Pl K H x n2 → n2.isL = false → n2.isT = false → chkD d = .plan .non → t_law_due K E { nx := fun _ H' => Q .non H', rt := Q } (start ["given", "numbers", "one", "at", "item"] [x, .ref n]) H := by
    intro n2 hpl h1 h2 hc
    unfold t_law_due
    wtm_at "vc"
    refine R.isiL false hpl h1 ?_
    wtm_at "vc"
    refine R.isiT false hpl h2 ?_
    wtm_at "vc"
    exact ⟨by show 2 ≤ sizeLine; decide, other hc⟩
  cases hd with
  | non => exact other2 _ .non rfl rfl rfl
  | bl b => exact other2 _ (.bl b) rfl rfl rfl
  | int i => exact other2 _ (.int i) rfl rfl rfl
  | str s => exact other2 _ (.str s) rfl rfl rfl
  | lst h hs => exact main true _ _ _ rfl h hs rfl
  | tup h hs => exact main false _ _ _ rfl h hs rfl

/-! stable parts of a heap -/
def core (S : List Addr) (H : Hp) : Hp := fun b => if b ∈ S then none else match H b with
  | some (.tbl _) => none
  | o => o
theorem core_of {S : List Addr} {H : Hp} {b : Addr} {o : HO} (h : core S H b = some o) : b ∉ S ∧ H b = some o ∧ ∀ ps, o ≠ .tbl ps := by
  unfold core at h
  by_cases z : b ∈ S
  · rw [if_pos z] at h; cases h
  · rw [if_neg z] at h
    refine ⟨z, ?_⟩
    cases e : H b with
    | none => rw [e] at h; cases h
    | some u =>
      rw [e] at h
      cases u with
      | tbl ps => cases h
      | _ => cases h; exact ⟨rfl, fun ps q => by cases q⟩
theorem core_at {S : List Addr} {H : Hp} {b : Addr} {o : HO} (n : b ∉ S) (h : H b = some o) (nt : ∀ ps, o ≠ .tbl ps) : core S H b = some o := by
  unfold core
  rw [if_neg n, h]
  cases o with
  | tbl ps => exact absurd rfl (nt ps)
  | _ => rfl
theorem core_mono {S S' : List Addr} {H H' : Hp} (hS : ∀ b, b ∈ S' → b ∈ S) (k : ∀ b o, b ∉ S → (∀ ps, o ≠ .tbl ps) → H b = some o → H' b = some o) : R.Ex (core S H) (core S' H') := fun b o h => by
  obtain ⟨h1, h2, h3⟩ := core_of h
  exact core_at (fun z => h1 (hS b z)) (k b o h1 h3 h2) h3
theorem core_ex {S : List Addr} {H : Hp} : R.Ex (core S H) H := fun b o h => (core_of h).2.1
def It (K : PySem.W.Frag) (S : List Addr) (H : Hp) (v : V) : Prop := ∃ d, Dp K (core S H) v d
def ItL (K : PySem.W.Frag) (S : List Addr) (H : Hp) (L : List V) : Prop := ∀ v ∈ L, It K S H v
section
variable {K : PySem.W.Frag} {S : List Addr} {H H' : Hp} {L vs : List V} {t p q : Addr} {o : HO} {v : V}
theorem It.int (i : Int) : It K S H (.int i) := ⟨_, .int i⟩
theorem It.bl (b : Bool) : It K S H (.bl b) := ⟨_, .bl b⟩
theorem It.str (s : Str) : It K S H (.str s) := ⟨_, .str s⟩
theorem It.non : It K S H .non := ⟨_, .non⟩
theorem ItL.nil : ItL K S H [] := fun _ h => by cases h
theorem ItL.cons (h : It K S H v) (hs : ItL K S H L) : ItL K S H (v :: L) := fun u hu => by
  rcases List.mem_cons.mp hu with e | e
  · subst e; exact h
  · exact hs u e
theorem ItL.app {L2 : List V} (h : ItL K S H L) (h2 : ItL K S H L2) : ItL K S H (L ++ L2) := fun u hu => by
  rcases List.mem_append.mp hu with e | e
  · exact h u e
  · exact h2 u e
theorem ItL.mono (h : ItL K S H L) (e : R.Ex (core S H) (core S H')) : ItL K S H' L := fun u hu => let ⟨d, hd⟩ := h u hu; ⟨d, dp_ex e hd⟩
theorem ItL.new (h : ItL K S H L) (n : H t = none) : ItL K S (upd H t o) L := h.mono (core_mono (fun _ z => z) fun b u _ _ hb => R.updOld n hb)
theorem ItL.exb (h : ItL K S H L) (hp : p ∈ S) (e : R.ExB p H H') : ItL K S H' L := h.mono (core_mono (fun _ z => z) fun b u hb _ h => e b u (fun z => hb (by rw [z]; exact hp)) h)
theorem ItL.all : ∀ {vs : List V}, ItL K S H vs → ∃ ds, DpAll K (core S H) vs ds
  | [], _ => ⟨[], .nil⟩
  | v :: vs, h => by
    obtain ⟨d, hd⟩ := h v (by simp)
    obtain ⟨ds, hds⟩ := ItL.all (vs := vs) fun u hu => h u (by simp [hu])
    exact ⟨d :: ds, .cons hd hds⟩
theorem ItL.tup (h : ItL K S H L) (n : H t = none) (ht : t ∉ S) (hv : ItL K S H vs) : ItL K S (upd H t (.tup vs)) (.ref t :: L) := by
  refine ItL.cons ?_ (h.new n)
  obtain ⟨ds, hds⟩ := (hv.new (o := .tup vs) n).all
  exact ⟨.tuple ds, .tup (SqT.of (core_at ht upd_same fun ps q => by cases q)) hds⟩
theorem ItL.lst (h : ItL K S H L) (n : H t = none) (ht : t ∉ S) (hv : ItL K S H vs) : ItL K S (upd H t (.lst vs)) (.ref t :: L) := by
  refine ItL.cons ?_ (h.new n)
  obtain ⟨ds, hds⟩ := (hv.new (o := .lst vs) n).all
  exact ⟨.list ds, .lst (SqL.of (core_at ht upd_same fun ps q => by cases q)) hds⟩
theorem notin2 (h1 : t ≠ p) (h2 : t ≠ q) : t ∉ [p, q] := fun z => by
  rcases List.mem_cons.mp z with z | z
  · exact h1 z
  · exact h2 (List.mem_singleton.mp z)
/-- an item of a written list -/
theorem menuV {d : Int} {Q : VK} {xs : List V} (P : V → Prop) (h : SqL K H t xs) (d0 : 0 ≤ d) (d1 : d < (xs.length : Int)) (hp : ∀ v ∈ xs, P v) (q : ∀ v, P v → Q v H) : rIx K (.ref t) (.int d) H Q := by
  obtain ⟨j, rfl⟩ : ∃ j : Nat, d = (j : Int) := ⟨d.toNat, by omega⟩
  have hi : j < xs.length := by omega
  exact R.ixuL h (v := xs[j]) (atI_nat (List.getElem?_eq_getElem hi)) (q _ (hp _ (List.getElem_mem hi)))
end
/-- the state of _law_given's turns -/
structure GI (K : PySem.W.Frag) (p q : Addr) (H H' : Hp) (xs : List V) : Prop where
  e : R.ExB p H H'
  pl : PoolAt H' p
  nq : H q = none
  hq : H' q = some (.lst xs)
  it : ItL K [p, q] H' xs
section
variable {K : PySem.W.Frag} {p q t : Addr} {H H' H2 : Hp} {xs : List V} {o : HO}
theorem GI.ne (g : GI K p q H H' xs) (hp : PoolAt H p) : q ≠ p := hp.other g.nq
theorem GI.no (g : GI K p q H H' xs) (n : H' t = none) : t ∉ [p, q] := notin2 (g.pl.other n) (R.ne_of_some g.hq n)
theorem GI.new (g : GI K p q H H' xs) (n : H' t = none) : GI K p q H (upd H' t o) xs := ⟨g.e.tr (R.ExB.new n), g.pl.old n, g.nq, R.updOld n g.hq, g.it.new n⟩
theorem GI.take (g : GI K p q H H' xs) (hp : PoolAt H p) (e : R.ExB p H' H2) (h : PoolAt H2 p) : GI K p q H H2 xs := ⟨g.e.tr e, h, g.nq, e _ _ (g.ne hp) g.hq, g.it.exb (p := p) (by simp) e⟩
theorem GI.app {v : V} (g : GI K p q H H' xs) (hp : PoolAt H p) (hv : It K [p, q] H' v) : GI K p q H (upd H' q (.lst (xs ++ [v]))) (xs ++ [v]) := by
  refine ⟨g.e.mut g.nq, g.pl.ne (Ne.symm (g.ne hp)), g.nq, upd_same, ?_⟩
  refine (g.it.app (.cons hv .nil)).mono (core_mono (fun _ z => z) fun b u hb _ h => ?_)
  rw [upd_ne (fun z => hb (by simp [z]))]
  exact h
end
def sp_law_given (K : PySem.W.Frag) : Sp := fun vs H Q _ => ∃ (p : Addr), vs = [.ref p] ∧ PoolAt H p ∧
  ∀ H' x d, R.ExB p H H' → PoolAt H' p → Dp K (core [p] H') x d → dlen d ≤ 1000 → Q x H'
theorem len_law_given {K : PySem.W.Frag} (vs : List V) (H : Hp) (Q : VK) (E : XK) (h : sp_law_given K vs H Q E) : vs.length = (["pool"] : List Str).length := by
  obtain ⟨_, rfl, _⟩ := h; rfl
def t_law_given (K : PySem.W.Frag) (E : XK) : TS :=
  (tSeq (tAsg (tLst tNil) (gName 1))
    (tSeq (tFor (iRng1 (tCons (tCall (sp_law_take K) [] E (tCons (tVar 0) (tCons (tC (.int 7)) tNil))) tNil)) (gName 2)
    (tSeq (tPar 5 6 (tCons (tCall (sp_law_take K) [] E (tCons (tVar 0) (tCons (tC (.int 100)) tNil))) (tCons (tOp (U.rAdd K) (tC (.int 1)) (tCall (sp_law_take K) [] E (tCons (tVar 0) (tCons (tC (.int 9)) tNil)))) tNil)))
    (tSeq (tAsg (tLst (tCons (tTup (tCons (tVar 5) tNil)) (tCons (tLst (tCons (tVar 5) (tCons (tVar 6) tNil))) (tCons (tTup (tCons (tVar 5) (tCons (tC (.int 0)) tNil))) (tCons (tTup (tCons (tUn (rU fun i => .int (-i)) (tC (.int 1))) (tCons (tVar 6) tNil))) (tCons (tTup (tCons (tOp (U.rAdd K) (tOp U.rPow (tC (.int 10)) (tC (.int 9))) (tC (.int 1))) (tCons (tVar 6) tNil))) (tCons (tTup (tCons (tVar 5) (tCons (tOp (U.rAdd K) (tOp U.rPow (tC (.int 10)) (tC (.int 9))) (tC (.int 1))) tNil))) (tCons (tTup (tCons (tC (.bl true)) (tCons (tVar 6) tNil))) tNil)))))))) (gName 3))
    (tSeq (tAsg (tOp (U.rAdd K) (tVar 3) (tLst (tCons (tTup (tCons (tVar 5) (tCons (tC (.bl true)) tNil))) (tCons (tTup (tCons (tVar 5) (tCons (tC .non) tNil))) (tCons (tC .non) (tCons (tC (.int 5)) (tCons (tTup (tCons (tVar 5) (tCons (tVar 6) (tCons (tC (.int 1)) tNil)))) (tCons (tTup (tCons (tC (.str "1")) (tCons (tVar 6) tNil))) (tCons (tTup tNil) tNil))))))))) (gName 3))
    (tSeq (tAsg (tOp (rIx K) (tVar 3) (tCall (sp_law_take K) [] E (tCons (tVar 0) (tCons (tC (.int 14)) tNil)))) (gName 4))
    (tDrop (tBM K "list" rAppend (tVar 1) (tCons (tOp (rIx K) (tLst (tCons (tTup (tCons (tVar 5) (tCons (tVar 6) tNil))) (tCons (tVar 4) tNil))) (tCB U.rInt (tCons (tOp (U.rEqU K) (tCall (sp_law_take K) [] E (tCons (tVar 0) (tCons (tC (.int 9)) tNil))) (tC (.int 0))) tNil))) tNil))))))))
    (tSeq (tIfS (tTest (tOp (U.rEqU K) (tCall (sp_law_take K) [] E (tCons (tVar 0) (tCons (tC (.int 8)) tNil))) (tC (.int 0)))) (tRet (tOp (rIx K) (tLst (tCons (tC .non) (tCons (tC (.int 5)) (tCons (tC (.str "")) (tCons (tC (.bl true)) (tCons (tC (.str "12")) tNil)))))) (tCall (sp_law_take K) [] E (tCons (tVar 0) (tCons (tC (.int 5)) tNil)))))
    tNext)
    (tRet (tIf (tTest (tOp (U.rEqU K) (tCall (sp_law_take K) [] E (tCons (tVar 0) (tCons (tC (.int 3)) tNil))) (tC (.int 0)))) (tCB (U.rTup K) (tCons (tVar 1) tNil)) (tVar 1))))))
theorem rd_law_given {K : PySem.W.Frag} (vs : List V) (H : Hp) (Q : VK) (E : XK) (h : sp_law_given K vs H Q E) : t_law_given K E { nx := fun _ H' => Q .non H', rt := Q } (start ["pool", "found", "turn", "bad", "item", "one", "many"] vs) H := by
  obtain ⟨p, rfl, hp, k⟩ := h
  unfold t_law_given
  wtm_at "vc"
  refine ⟨by decide, fun q nq => ?_⟩
  have g1 : GI K p q H (upd H q (.lst [])) [] := ⟨R.ExB.new nq, hp.old nq, nq, upd_same, ItL.nil⟩
  wtm_at "vc"
  refine ⟨p, _, rfl, g1.pl, by decide, by decide, fun c H1 c0 c1 p1 e1 => ?_⟩
  have g2 := g1.take hp e1 p1
  refine R.rngP (by omega) (by omega) (fun i σ H' => ∃ u2 u3 u4 u5 u6 xs, σ = [some (.ref p), some (.ref q), u2, u3, u4, u5, u6] ∧ GI K p q H H' xs ∧ xs.length = i) ⟨_, _, _, _, _, _, rfl, g2, rfl⟩ ?_ ?_
  · rintro i σ H3 hi ⟨u2, u3, u4, u5, u6, xs0, rfl, g3, hl⟩
    wtm_at "vc"
    refine ⟨p, _, rfl, g3.pl, by decide, by decide, fun one H4 o0 o1 p4 e4 => ?_⟩
    have g4 := g3.take hp e4 p4
    wtm_at "vc"
    refine ⟨p, _, rfl, g4.pl, by decide, by decide, fun m H5 m0 m1 p5 e5 => ?_⟩
    have g5 := g4.take hp e5 p5
    have a5 := g5.it
    wtm_at "vc"
    refine ⟨by show 1 ≤ sizeLine; decide, fun t6 n6 => ?_⟩
    have g6 := g5.new (o := .tup [.int one]) n6
    have a6 := ItL.tup a5 n6 (g5.no n6) (vs := [.int one]) (ItL.cons (It.int _) ItL.nil)
    generalize upd H5 t6 (.tup [.int one]) = H6 at *
    wtm_at "vc"
    refine ⟨by show 2 ≤ sizeLine; decide, fun t7 n7 => ?_⟩
    have g7 := g6.new (o := .lst [.int one, .int (1 + m)]) n7
    have a7 := ItL.lst a6 n7 (g6.no n7) (vs := [.int one, .int (1 + m)]) (ItL.cons (It.int _) (ItL.cons (It.int _) ItL.nil))
    generalize upd H6 t7 (.lst [.int one, .int (1 + m)]) = H7 at *
    wtm_at "vc"
    refine ⟨by show 2 ≤ sizeLine; decide, fun t8 n8 => ?_⟩
    have g8 := g7.new (o := .tup [.int one, .int 0]) n8
    have a8 := ItL.tup a7 n8 (g7.no n8) (vs := [.int one, .int 0]) (ItL.cons (It.int _) (ItL.cons (It.int _) ItL.nil))
    generalize upd H7 t8 (.tup [.int one, .int 0]) = H8 at *
    wtm_at "vc"
    refine ⟨by show 2 ≤ sizeLine; decide, fun t9 n9 => ?_⟩
    have g9 := g8.new (o := .tup [.int (-1), .int (1 + m)]) n9
    have a9 := ItL.tup a8 n9 (g8.no n9) (vs := [.int (-1), .int (1 + m)]) (ItL.cons (It.int _) (ItL.cons (It.int _) ItL.nil))
    generalize upd H8 t9 (.tup [.int (-1), .int (1 + m)]) = H9 at *
    wtm_at "vc"
    refine ⟨by show 2 ≤ sizeLine; decide, fun t10 n10 => ?_⟩
    have g10 := g9.new (o := .tup [.int (1000000000 + 1), .int (1 + m)]) n10
    have a10 := ItL.tup a9 n10 (g9.no n10) (vs := [.int (1000000000 + 1), .int (1 + m)]) (ItL.cons (It.int _) (ItL.cons (It.int _) ItL.nil))
    generalize upd H9 t10 (.tup [.int (1000000000 + 1), .int (1 + m)]) = H10 at *
    wtm_at "vc"
    refine ⟨by show 2 ≤ sizeLine; decide, fun t11 n11 => ?_⟩
    have g11 := g10.new (o := .tup [.int one, .int (1000000000 + 1)]) n11
    have a11 := ItL.tup a10 n11 (g10.no n11) (vs := [.int one, .int (1000000000 + 1)]) (ItL.cons (It.int _) (ItL.cons (It.int _) ItL.nil))
    generalize upd H10 t11 (.tup [.int one, .int (1000000000 + 1)]) = H11 at *
    wtm_at "vc"
    refine ⟨by show 2 ≤ sizeLine; decide, fun t12 n12 => ?_⟩
    have g12 := g11.new (o := .tup [.bl true, .int (1 + m)]) n12
    have a12 := ItL.tup a11 n12 (g11.no n12) (vs := [.bl true, .int (1 + m)]) (ItL.cons (It.bl _) (ItL.cons (It.int _) ItL.nil))
    generalize upd H11 t12 (.tup [.bl true, .int (1 + m)]) = H12 at *
    wtm_at "vc"
    refine ⟨by show 7 ≤ sizeLine; decide, fun t13 n13 => ?_⟩
    have g13 := g12.new (o := .lst [.ref t6, .ref t7, .ref t8, .ref t9, .ref t10, .ref t11, .ref t12]) n13
    have a13 := ItL.lst a12 n13 (g12.no n13) (vs := [.ref t6, .ref t7, .ref t8, .ref t9, .ref t10, .ref t11, .ref t12]) (fun v hv => a12 v (by simp at hv ⊢; rcases hv with h | h | h | h | h | h | h <;> simp [h]))
    have hb1 : (upd H12 t13 (.lst [.ref t6, .ref t7, .ref t8, .ref t9, .ref t10, .ref t11, .ref t12])) t13 = some (.lst [.ref t6, .ref t7, .ref t8, .ref t9, .ref t10, .ref t11, .ref t12]) := upd_same
    generalize upd H12 t13 (.lst [.ref t6, .ref t7, .ref t8, .ref t9, .ref t10, .ref t11, .ref t12]) = H13 at *
    wtm_at "vc"
    refine ⟨by show 2 ≤ sizeLine; decide, fun t14 n14 => ?_⟩
    have g14 := g13.new (o := .tup [.int one, .bl true]) n14
    have a14 := ItL.tup a13 n14 (g13.no n14) (vs := [.int one, .bl true]) (ItL.cons (It.int _) (ItL.cons (It.bl _) ItL.nil))
    replace hb1 := R.updOld (o := .tup [.int one, .bl true]) n14 hb1
    generalize upd H13 t14 (.tup [.int one, .bl true]) = H14 at *
    wtm_at "vc"
    refine ⟨by show 2 ≤ sizeLine; decide, fun t15 n15 => ?_⟩
    have g15 := g14.new (o := .tup [.int one, .non]) n15
    have a15 := ItL.tup a14 n15 (g14.no n15) (vs := [.int one, .non]) (ItL.cons (It.int _) (ItL.cons (It.non) ItL.nil))
    replace hb1 := R.updOld (o := .tup [.int one, .non]) n15 hb1
    generalize upd H14 t15 (.tup [.int one, .non]) = H15 at *
    wtm_at "vc"
    refine ⟨by show 3 ≤ sizeLine; decide, fun t16 n16 => ?_⟩
    have g16 := g15.new (o := .tup [.int one, .int (1 + m), .int 1]) n16
    have a16 := ItL.tup a15 n16 (g15.no n16) (vs := [.int one, .int (1 + m), .int 1]) (ItL.cons (It.int _) (ItL.cons (It.int _) (ItL.cons (It.int _) ItL.nil)))
    replace hb1 := R.updOld (o := .tup [.int one, .int (1 + m), .int 1]) n16 hb1
    generalize upd H15 t16 (.tup [.int one, .int (1 + m), .int 1]) = H16 at *
    wtm_at "vc"
    refine ⟨by show 2 ≤ sizeLine; decide, fun t17 n17 => ?_⟩
    have g17 := g16.new (o := .tup [.str "1", .int (1 + m)]) n17
    have a17 := ItL.tup a16 n17 (g16.no n17) (vs := [.str "1", .int (1 + m)]) (ItL.cons (It.str _) (ItL.cons (It.int _) ItL.nil))
    replace hb1 := R.updOld (o := .tup [.str "1", .int (1 + m)]) n17 hb1
    generalize upd H16 t17 (.tup [.str "1", .int (1 + m)]) = H17 at *
    wtm_at "vc"
    refine ⟨by show 0 ≤ sizeLine; decide, fun t18 n18 => ?_⟩
    have g18 := g17.new (o := .tup []) n18
    have a18 := ItL.tup a17 n18 (g17.no n18) (vs := []) ItL.nil
    replace hb1 := R.updOld (o := .tup []) n18 hb1
    generalize upd H17 t18 (.tup []) = H18 at *
    wtm_at "vc"
    refine ⟨by show 7 ≤ sizeLine; decide, fun t19 n19 => ?_⟩
    have g19 := g18.new (o := .lst [.ref t14, .ref t15, .non, .int 5, .ref t16, .ref t17, .ref t18]) n19
    have a19 := ItL.lst a18 n19 (g18.no n19) (vs := [.ref t14, .ref t15, .non, .int 5, .ref t16, .ref t17, .ref t18]) (fun v hv => by simp at hv; rcases hv with h | h | h | h | h | h | h <;> subst h <;> first | exact It.non | exact It.int 5 | (exact a18 _ (by simp)))
    replace hb1 := R.updOld (o := .lst [.ref t14, .ref t15, .non, .int 5, .ref t16, .ref t17, .ref t18]) n19 hb1
    have hb2 : (upd H18 t19 (.lst [.ref t14, .ref t15, .non, .int 5, .ref t16, .ref t17, .ref t18])) t19 = some (.lst [.ref t14, .ref t15, .non, .int 5, .ref t16, .ref t17, .ref t18]) := upd_same
    generalize upd H18 t19 (.lst [.ref t14, .ref t15, .non, .int 5, .ref t16, .ref t17, .ref t18]) = H19 at *
    wtm_at "vc"
    refine R.adL hb1 hb2 (by show 14 ≤ sizeLine; decide) fun b3 n3 => ?_
    have g20 := g19.new (o := .lst ([V.ref t6, V.ref t7, V.ref t8, V.ref t9, V.ref t10, V.ref t11, V.ref t12] ++ [V.ref t14, V.ref t15, V.non, V.int 5, V.ref t16, V.ref t17, V.ref t18])) n3
    have a20 : ItL K [p, q] (upd H19 b3 (.lst ([V.ref t6, V.ref t7, V.ref t8, V.ref t9, V.ref t10, V.ref t11, V.ref t12] ++ [V.ref t14, V.ref t15, V.non, V.int 5, V.ref t16, V.ref t17, V.ref t18]))) ([V.ref t6, V.ref t7, V.ref t8, V.ref t9, V.ref t10, V.ref t11, V.ref t12] ++ [V.ref t14, V.ref t15, V.non, V.int 5, V.ref t16, V.ref t17, V.ref t18]) := by
      refine ItL.new (fun v hv => ?_) n3
      simp at hv
      rcases hv with h | h | h | h | h | h | h | h | h | h | h | h | h | h <;> subst h <;> first | exact It.non | exact It.int 5 | exact a19 _ (by simp)
    have hb3 : (upd H19 b3 (.lst ([V.ref t6, V.ref t7, V.ref t8, V.ref t9, V.ref t10, V.ref t11, V.ref t12] ++ [V.ref t14, V.ref t15, V.non, V.int 5, V.ref t16, V.ref t17, V.ref t18]))) b3 = some (.lst ([V.ref t6, V.ref t7, V.ref t8, V.ref t9, V.ref t10, V.ref t11, V.ref t12] ++ [V.ref t14, V.ref t15, V.non, V.int 5, V.ref t16, V.ref t17, V.ref t18])) := upd_same
    have b3p := g19.pl.other n3
    generalize upd H19 b3 (.lst ([V.ref t6, V.ref t7, V.ref t8, V.ref t9, V.ref t10, V.ref t11, V.ref t12] ++ [V.ref t14, V.ref t15, V.non, V.int 5, V.ref t16, V.ref t17, V.ref t18])) = H20 at *
    clear a6 a7 a8 a9 a10 a11 a12 a13 a14 a15 a16 a17 a18 a19 hb1 hb2
    wtm_at "vc"
    refine ⟨p, _, rfl, g20.pl, by decide, by decide, fun ix H21 i0 i1 p21 e21 => ?_⟩
    have g21 := g20.take hp e21 p21
    have a21 := a20.exb (p := p) (by simp) e21
    refine menuV (It K [p, q] H21) (SqL.of (e21 _ _ b3p hb3)) i0 i1 a21 fun y hy => ?_
    have hq21 := g21.hq
    wtm_at "vc"
    refine ⟨by show 2 ≤ sizeLine; decide, fun t22 n22 => ?_⟩
    have g22 := g21.new (o := .tup [.int one, .int (1 + m)]) n22
    have a22 := ItL.tup (ItL.cons hy ItL.nil) n22 (g21.no n22) (vs := [.int one, .int (1 + m)]) (ItL.cons (It.int _) (ItL.cons (It.int _) ItL.nil))
    generalize upd H21 t22 (.tup [.int one, .int (1 + m)]) = H22 at *
    wtm_at "vc"
    refine ⟨by show 2 ≤ sizeLine; decide, fun t23 n23 => ?_⟩
    have g23 := g22.new (o := .lst [.ref t22, y]) n23
    have a23 := a22.new (o := .lst [.ref t22, y]) n23
    have t23p := g22.pl.other n23
    have hb4 : (upd H22 t23 (.lst [.ref t22, y])) t23 = some (.lst [.ref t22, y]) := upd_same
    generalize upd H22 t23 (.lst [.ref t22, y]) = H23 at *
    wtm_at "vc"
    refine ⟨p, _, rfl, g23.pl, by decide, by decide, fun z H24 z0 z1 p24 e24 => ?_⟩
    have g24 := g23.take hp e24 p24
    have a24 := a23.exb (p := p) (by simp) e24
    have hq24 := g24.hq
    have hl2 : xs0.length < sizeLine := by rw [sizeLine_eq]; omega
    wtm_at "vc"
    refine menuV (It K [p, q] H24) (SqL.of (e24 _ _ t23p hb4)) (by split <;> omega) (by show _ < (2 : Int); split <;> omega) a24 fun y2 hy2 => ?_
    wtm_at "vc"
    exact ⟨_, _, _, _, _, xs0 ++ [y2], rfl, g24.app hp hy2, by simp [hl]⟩
  · rintro σ H3 ⟨u2, u3, u4, u5, u6, xs0, rfl, g3, hl⟩
    have hl2 : xs0.length ≤ 7 := by omega
    wtm_at "vc"
    refine ⟨p, _, rfl, g3.pl, by decide, by decide, fun a H4 _ _ p4 e4 => ?_⟩
    have g4 := g3.take hp e4 p4
    wtm_at "vc"
    (with_reducible refine R.ifd ?_ ?_) <;> intro h
    · wtm_at "vc"
      refine ⟨by show 5 ≤ sizeLine; decide, fun m nm => ?_⟩
      have g5 := g4.new (o := .lst [.non, .int 5, .str "", .bl true, .str "12"]) nm
      wtm_at "vc"
      refine ⟨p, _, rfl, g5.pl, by decide, by decide, fun ix H6 i0 i1 p6 e6 => ?_⟩
      have g6 := g5.take hp e6 p6
      have hm6 := e6 _ _ (g4.pl.other nm) (upd_same (o := .lst [.non, .int 5, .str "", .bl true, .str "12"]))
      refine menuV (fun v => ∃ d, Dp K (core [p] H6) v d ∧ dlen d ≤ 1000) (SqL.of hm6) i0 i1 (fun v hv => ?_) fun v ⟨d, hd, hl⟩ => k _ v d g6.e g6.pl hd hl
      simp at hv
      rcases hv with h | h | h | h | h <;> subst h
      · exact ⟨_, .non, by decide⟩
      · exact ⟨_, .int 5, by decide⟩
      · exact ⟨_, .str _, by decide⟩
      · exact ⟨_, .bl _, by decide⟩
      · exact ⟨_, .str _, by decide⟩
    · wtm_at "vc"
      refine ⟨p, _, rfl, g4.pl, by decide, by decide, fun b H5 _ _ p5 e5 => ?_⟩
      have g5 := g4.take hp e5 p5
      obtain ⟨ds, hds⟩ := g5.it.all
      have hdl := dpAll_len hds
      have sub : R.Ex (core [p, q] H5) (core [p] H5) := core_mono (fun b hb => by simp at hb; simp [hb]) fun _ _ _ _ h => h
      wtm_at "vc"
      (with_reducible refine R.ifd ?_ ?_) <;> intro h
      · wtm_at "vc"
        refine R.tupL (SqL.of g5.hq) fun t nt => ?_
        have g6 := g5.new (o := .tup xs0) nt
        have sub2 : R.Ex (core [p] H5) (core [p] (upd H5 t (.tup xs0))) := core_mono (fun _ z => z) fun b u _ _ hb => R.updOld nt hb
        refine k _ (.ref t) (.tuple ds) g6.e g6.pl ?_ (by show ds.length ≤ 1000; omega)
        exact .tup (SqT.of (core_at (fun z => g5.pl.other nt (List.mem_singleton.mp z)) upd_same fun ps q => by cases q)) (dpAll_ex (sub.tr sub2) hds)
      · wtm_at "vc"
        refine k _ (.ref q) (.list ds) g5.e g5.pl ?_ (by show ds.length ≤ 1000; omega)
        exact .lst (SqL.of (core_at (fun z => g5.ne hp (List.mem_singleton.mp z)) g5.hq fun ps q => by cases q)) (dpAll_ex sub hds)

/-! the law of k81 -/
abbrev lamP (K : PySem.W.Frag) : Addr := He.tabOf K (He.codeOf K ("law", none))
def sp_law (K : PySem.W.Frag) : Sp := fun vs H Q _ => ∃ (s : Addr) (ns : List Int), vs = [.ref s] ∧ SqL K H s (ns.map V.int) ∧ ns.length ≤ 1000 ∧ LamX.Tabs (lamT K) H ∧ ∀ H', Q (.bl true) H'
theorem len_law {K : PySem.W.Frag} (vs : List V) (H : Hp) (Q : VK) (E : XK) (h : sp_law K vs H Q E) : vs.length = (["script"] : List Str).length := by
  obtain ⟨s, ns, rfl, _⟩ := h; rfl
theorem law_end {K : PySem.W.Frag} {H : Hp} {a : Addr} {ns : List Int} (h : SqL K H a (ns.map V.int)) (hl : ns.length ≤ 63) (ht : H (lamP K) = some (.tbl #[])) : sp_law K [.ref a] H (fun v _ => v = .bl true) (fun _ _ _ => False) :=
  ⟨a, ns, rfl, h, by omega, fun p hp => by rw [List.mem_singleton.mp hp]; exact LamX.TabS.nil ht, fun _ => rfl⟩
def t_law (K : PySem.W.Frag) (E : XK) : TS :=
  (tSeq (tFor (iRng1 (tCons (tCB U.rMax2 (tCons (tC (.int 1)) (tCons (tCB U.rMin2 (tCons (tCB (U.rLen K) (tCons (tVar 0) tNil)) (tCons (tC (.int 40)) tNil))) tNil))) tNil)) (gName 1)
    (tSeq (tAsg (tCall (sp_law_pool K) [] E (tCons (tVar 0) (tCons (tVar 1) tNil))) (gName 2))
    (tSeq (tAsg (tTup (tCons (tCall (sp_law_given K) [] E (tCons (tVar 2) tNil)) (tCons (tLst tNil) tNil))) (gTup K 2 (gCons (gName 4) (gCons (gName 5) gNil))))
    (tSeq (tFor (iRng1 (tCons (tC (.int 3)) tNil)) (gName 3)
    (tSeq (tAsg (tOp (rIx K) (tLst (tCons (tC .non) (tCons (tC (.bl true)) (tCons (tC (.bl false)) (tCons (tC (.str "5")) (tCons (tUn (rU fun i => .int (-i)) (tC (.int 1))) (tCons (tOp (U.rAdd K) (tOp U.rPow (tC (.int 10)) (tC (.int 9))) (tC (.int 1))) (tCons (tOp U.rPow (tC (.int 10)) (tC (.int 30))) (tCons (tTup (tCons (tC (.int 3)) tNil)) (tCons (tLst (tCons (tC (.int 1)) tNil)) (tCons (tC (.str "")) tNil))))))))))) (tCall (sp_law_take K) [] E (tCons (tVar 2) (tCons (tC (.int 10)) tNil)))) (gName 6))
    (tDrop (tBM K "list" rAppend (tVar 5) (tCons (tOp (rIx K) (tLst (tCons (tCall (sp_law_take K) [] E (tCons (tVar 2) (tCons (tOp U.rPow (tC (.int 10)) (tC (.int 6))) tNil))) (tCons (tC (.int 0)) (tCons (tOp U.rPow (tC (.int 10)) (tC (.int 9))) (tCons (tVar 6) tNil))))) (tCall (sp_law_take K) [] E (tCons (tVar 2) (tCons (tC (.int 4)) tNil)))) tNil)))))
    (tSeq (tAsg (tVar 5) (U.gUn K 3 (gCons (gName 7) (gCons (gName 8) (gCons (gName 9) gNil)))))
    (tSeq (tIfS (tNot (tB (tCall (sp_law_same K 3) [] E (tCons (LamX.tLam (lamT K) (TT_law_told K) (fun E => (tCall (sp_least_delay K) [] E (tCons (tVar 4) (tCons (tVar 7) tNil))))) (tCons (tCall (sp_law_due K) [] E (tCons (tVar 4) (tCons (tLst (tCons (tVar 7) tNil)) tNil))) tNil))))) (tRet (tC (.bl false)))
    tNext)
    (tIfS (tNot (tB (tCall (sp_law_same K 3) [] E (tCons (LamX.tLam (lamT K) (TT_law_told K) (fun E => (tCall (sp_padding K) [] E (tCons (tVar 4) (tCons (tVar 7) (tCons (tVar 8) (tCons (tVar 9) tNil))))))) (tCons (tCall (sp_law_due K) [] E (tCons (tVar 4) (tCons (tVar 5) tNil))) tNil))))) (tRet (tC (.bl false)))
    tNext)))))))
    (tRet (tC (.bl true))))
theorem sql_core {K : PySem.W.Frag} {S : List Addr} {H : Hp} {a : Addr} {xs : List V} (n : a ∉ S) (h : SqL K H a xs) : SqL K (core S H) a xs := by
  rcases h with (h | ⟨z, h⟩) | h
  · exact .inl (.inl (core_at n h fun ps q => by cases q))
  · exact .inl (.inr ⟨z, core_at n h fun ps q => by cases q⟩)
  · exact .inr h
/-- later than the stable part -/
theorem ex_coreN {S : List Addr} {H0 H H' : Hp} (e : R.Ex (core S H0) H) (n : LamX.ExtN H H') : R.Ex (core S H0) H' := fun b o h => n b o (e b o h) (core_of h).2.2
theorem tabs_exb {T : List (Addr × Str)} {H H' : Hp} {p : Addr} {ys : List V} (t : LamX.Tabs T H) (hp : H p = some (.lst ys)) (e : R.ExB p H H') : LamX.Tabs T H' := fun r hr => by
  obtain ⟨ps, h1, h2, h3⟩ := t r hr
  refine ⟨ps, e _ _ (fun z => by rw [z, hp] at h1; cases h1) h1, h2, fun pos cv hc => ?_⟩
  obtain ⟨c, e1, e2⟩ := h3 pos cv hc
  exact ⟨c, e1, e _ _ (fun z => by rw [z, hp] at e2; cases e2) e2⟩
def It1 (K : PySem.W.Frag) (S : List Addr) (H : Hp) (v : V) : Prop := ∃ d, Dp K (core S H) v d ∧ PyData.depth d ≤ 1
/-- the state while the numbers are drawn -/
structure GS (K : PySem.W.Frag) (p q : Addr) (H H' : Hp) (x : V) (d : PyData) (xs : List V) : Prop where
  e : R.Ex (core [] H) H'
  T : LamX.Tabs (lamT K) H'
  pl : PoolAt H' p
  np : H p = none
  nq : H q = none
  hq : H' q = some (.lst xs)
  qp : q ≠ p
  x : Dp K (core [p, q] H') x d
  it : ∀ v ∈ xs, It1 K [p, q] H' v
section
variable {K : PySem.W.Frag} {p q t : Addr} {H H' H2 : Hp} {x : V} {d : PyData} {xs : List V} {o : HO}
theorem It1.mono {S : List Addr} {v : V} (h : It1 K S H v) (e : R.Ex (core S H) (core S H')) : It1 K S H' v := let ⟨d, hd, hl⟩ := h; ⟨d, dp_ex e hd, hl⟩
theorem core_none {S : List Addr} {b : Addr} (n : H b = none) : core S H b = none := by
  cases h : core S H b with
  | none => rfl
  | some o => have := (core_of h).2.1; rw [n] at this; cases this
theorem GS.no (g : GS K p q H H' x d xs) (n : H' t = none) : t ∉ [p, q] := notin2 (g.pl.other n) (R.ne_of_some g.hq n)
theorem GS.cnew (g : GS K p q H H' x d xs) (n : H' t = none) : R.Ex (core [p, q] H') (core [p, q] (upd H' t o)) := core_mono (fun _ z => z) fun b u _ _ hb => R.updOld n hb
theorem GS.new (g : GS K p q H H' x d xs) (n : H' t = none) : GS K p q H (upd H' t o) x d xs :=
  ⟨g.e.tr (R.Ex.new n), g.T.ext fun b u h => R.updOld n h, g.pl.old n, g.np, g.nq, R.updOld n g.hq, g.qp, dp_ex (g.cnew n) g.x, fun v hv => (g.it v hv).mono (g.cnew n)⟩
theorem GS.ctake (e : R.ExB p H' H2) : R.Ex (core [p, q] H') (core [p, q] H2) := core_mono (fun _ z => z) fun b u hb _ h => e b u (fun z => hb (by simp [z])) h
theorem GS.take (g : GS K p q H H' x d xs) (e : R.ExB p H' H2) (h : PoolAt H2 p) : GS K p q H H2 x d xs :=
  let ⟨_, hl⟩ := g.pl.lst
  ⟨fun b o hb => e b o (fun z => by subst z; rw [core_none g.np] at hb; cases hb) (g.e b o hb), tabs_exb g.T hl e, h, g.np, g.nq, e _ _ g.qp g.hq, g.qp, dp_ex (GS.ctake e) g.x, fun v hv => (g.it v hv).mono (GS.ctake e)⟩
theorem GS.app {v : V} (g : GS K p q H H' x d xs) (hv : It1 K [p, q] H' v) : GS K p q H (upd H' q (.lst (xs ++ [v]))) x d (xs ++ [v]) := by
  have c : R.Ex (core [p, q] H') (core [p, q] (upd H' q (.lst (xs ++ [v])))) := core_mono (fun _ z => z) fun b u hb _ h => by
    rw [upd_ne (fun z => hb (by simp [z]))]
    exact h
  refine ⟨g.e.mut (core_none g.nq), tabs_exb g.T g.hq R.ExB.at, g.pl.ne (Ne.symm g.qp), g.np, g.nq, upd_same, g.qp, dp_ex c g.x, fun u hu => ?_⟩
  rcases List.mem_append.mp hu with hu | hu
  · exact (g.it u hu).mono c
  · rw [List.mem_singleton.mp hu]; exact hv.mono c
end
theorem due_dp {K : PySem.W.Frag} {H : Hp} {d : PyData} {yd : List (V × PyData)} (hy : ∀ p ∈ yd, Dp K H p.1 p.2 ∧ PyData.depth p.2 ≤ 1) : ∃ ds, DpAll K H (dueL d yd) ds ∧ PyData.depthAll ds ≤ 1 := by
  have cases_ : ∀ v, chkD d = .plan v → v = .non ∨ ∃ i : Nat, v = .int i := by
    intro v h
    have key : ∀ l, chkL l = .plan v → v = .non ∨ ∃ i : Nat, v = .int i := fun l h => by
      unfold chkL at h
      cases z : badAt l 0 with
      | none => rw [z] at h; cases h
      | some i => rw [z] at h; cases h; exact .inr ⟨i, rfl⟩
    cases d with
    | list l => exact key l h
    | tuple l => exact key l h
    | _ => cases h; exact .inl rfl
  have bad : ∀ (yd : List (V × PyData)) (x : V), firstBad yd = some x → ∃ p ∈ yd, p.1 = x := by
    intro yd
    induction yd with
    | nil => intro x h; cases h
    | cons p r ih =>
      intro x h
      have h2 : (if btwD 0 1000000000 p.2 then firstBad r else some p.1) = some x := h
      cases b : btwD 0 1000000000 p.2 with
      | true =>
        rw [b] at h2
        obtain ⟨p2, m, e⟩ := ih x h2
        exact ⟨p2, by simp [m], e⟩
      | false =>
        rw [b] at h2
        exact ⟨p, by simp, Option.some.inj h2⟩
  unfold dueL
  cases hc : chkD d with
  | plan v =>
    rcases cases_ v hc with rfl | ⟨i, rfl⟩
    · exact ⟨_, .cons (.str _) (.cons .non .nil), by show max 0 (max 0 0) ≤ 1; decide⟩
    · exact ⟨_, .cons (.str _) (.cons (.int _) .nil), by show max 0 (max 0 0) ≤ 1; decide⟩
  | fine =>
    cases hb : firstBad yd with
    | none => exact ⟨_, .cons (.str _) (.cons .non .nil), by show max 0 (max 0 0) ≤ 1; decide⟩
    | some x =>
      obtain ⟨p, hp, rfl⟩ := bad yd x hb
      obtain ⟨h1, h2⟩ := hy p hp
      refine ⟨_, .cons (.str _) (.cons h1 .nil), ?_⟩
      show max 0 (max (PyData.depth p.2) 0) ≤ 1
      rw [Nat.max_zero, Nat.zero_max]
      exact h2
theorem told_ld {K : PySem.W.Frag} {σ : L2.St} {x y : V} {d dy : PyData} {H1 : Hp} {Q : VK} (s4 : σ[4]? = some (some x)) (s7 : σ[7]? = some (some y)) (hx : Dp K H1 x d) (hy : Dp K H1 y dy)
    (fin : ∀ H2 p, R.Ex H1 H2 → H2 p = none → Q (.ref p) (upd H2 p (.lst (dueL d [(y, dy)])))) : TT_law_told K (fun E H' Q' => tCall (sp_least_delay K) [] E (tCons (tVar 4) (tCons (tVar 7) tNil)) σ H' Q') H1 Q := by
  unfold dueL at fin
  refine ⟨x, s4, y, s7, ⟨x, y, d, dy, rfl, hx, hy, fun hc hb v H2 e2 => ⟨by show 2 ≤ sizeLine; decide, fun p np => ?_⟩, fun v hc dd H2 _ e2 hd => .inl ⟨rfl, dd, v, rfl, hd, fun p np => ?_⟩, fun hc hb dd H2 _ e2 hd => .inr ⟨rfl, dd, y, rfl, hd, fun p np => ?_⟩⟩⟩
  · have f := fin H2 p e2 np
    have fb : firstBad [(y, dy)] = none := by show (if btwD 0 1000000000 dy then none else some y) = none; rw [hb]; rfl
    rw [hc, fb] at f
    exact f
  · have f := fin H2 p e2 np
    rw [hc] at f
    exact f
  · have f := fin H2 p e2 np
    have fb : firstBad [(y, dy)] = some y := by show (if btwD 0 1000000000 dy then none else some y) = some y; rw [hb]; rfl
    rw [hc, fb] at f
    exact f
theorem told_pd {K : PySem.W.Frag} {σ : L2.St} {x y1 y2 y3 : V} {d d1 d2 d3 : PyData} {H1 : Hp} {Q : VK} (s4 : σ[4]? = some (some x)) (s7 : σ[7]? = some (some y1)) (s8 : σ[8]? = some (some y2)) (s9 : σ[9]? = some (some y3)) (hx : Dp K H1 x d) (h1 : Dp K H1 y1 d1) (h2 : Dp K H1 y2 d2) (h3 : Dp K H1 y3 d3) (hl : dlen d ≤ 1000)
    (fin : ∀ H2 p, R.Ex H1 H2 → H2 p = none → Q (.ref p) (upd H2 p (.lst (dueL d [(y1, d1), (y2, d2), (y3, d3)])))) : TT_law_told K (fun E H' Q' => tCall (sp_padding K) [] E (tCons (tVar 4) (tCons (tVar 7) (tCons (tVar 8) (tCons (tVar 9) tNil)))) σ H' Q') H1 Q := by
  unfold dueL at fin
  refine ⟨x, s4, y1, s7, y2, s8, y3, s9, ⟨x, d, y1, d1, y2, d2, y3, d3, rfl, hx, h1, h2, h3, hl, fun hc hb v H2 e2 => ⟨by show 2 ≤ sizeLine; decide, fun p np => ?_⟩, fun v hc dd H2 _ e2 hd => .inl ⟨rfl, dd, v, rfl, hd, fun p np => ?_⟩, fun v hc hb dd H2 _ e2 hd => .inr ⟨rfl, dd, v, rfl, hd, fun p np => ?_⟩⟩⟩
  · have f := fin H2 p e2 np
    rw [hc, hb] at f
    exact f
  · have f := fin H2 p e2 np
    rw [hc] at f
    exact f
  · have f := fin H2 p e2 np
    rw [hc, hb] at f
    exact f
/-- a turn's end: what is told is what is due -/
theorem turn_end {K : PySem.W.Frag} {E : XK} {D : Ends} {H0 H' : Hp} {x y1 y2 y3 : V} {d d1 d2 d3 : PyData} {q : Addr} {u0 u1 u2 u3 u6 : Option V} (e : R.Ex (core [] H0) H') (T : LamX.Tabs (lamT K) H') (hx : Dp K (core [] H0) x d) (hl : dlen d ≤ 1000)
    (h1 : Dp K (core [] H0) y1 d1) (h2 : Dp K (core [] H0) y2 d2) (h3 : Dp K (core [] H0) y3 d3) (l1 : PyData.depth d1 ≤ 1) (l2 : PyData.depth d2 ≤ 1) (l3 : PyData.depth d3 ≤ 1) (hq : SqL K (core [] H0) q [y1, y2, y3])
    (kk : ∀ H2, R.Ex (core [] H0) H2 → LamX.Tabs (lamT K) H2 → D.nx [u0, u1, u2, u3, some x, some (.ref q), u6, some y1, some y2, some y3] H2) :
    (tSeq (tIfS (tNot (tB (tCall (sp_law_same K 3) [] E (tCons (LamX.tLam (lamT K) (TT_law_told K) (fun E => (tCall (sp_least_delay K) [] E (tCons (tVar 4) (tCons (tVar 7) tNil))))) (tCons (tCall (sp_law_due K) [] E (tCons (tVar 4) (tCons (tLst (tCons (tVar 7) tNil)) tNil))) tNil))))) (tRet (tC (.bl false)))
    tNext)
    (tIfS (tNot (tB (tCall (sp_law_same K 3) [] E (tCons (LamX.tLam (lamT K) (TT_law_told K) (fun E => (tCall (sp_padding K) [] E (tCons (tVar 4) (tCons (tVar 7) (tCons (tVar 8) (tCons (tVar 9) tNil))))))) (tCons (tCall (sp_law_due K) [] E (tCons (tVar 4) (tCons (tVar 5) tNil))) tNil))))) (tRet (tC (.bl false)))
    tNext)) D [u0, u1, u2, u3, some x, some (.ref q), u6, some y1, some y2, some y3] H' := by
  wtm_at "vc"
  refine ⟨T, fun H1 n1 T1 => ?_⟩
  have e1 := ex_coreN e n1
  refine told_ld rfl rfl (dp_ex e1 hx) (dp_ex e1 h1) fun H2 p e2 np => ?_
  have e3 := (e1.tr e2).tr (R.Ex.new (o := .lst (dueL d [(y1, d1)])) np)
  have T3 := (T1.ext e2).ext (R.Ex.new (o := .lst (dueL d [(y1, d1)])) np)
  have hp3 : (upd H2 p (.lst (dueL d [(y1, d1)]))) p = some (.lst (dueL d [(y1, d1)])) := upd_same
  generalize upd H2 p (.lst (dueL d [(y1, d1)])) = H3 at *
  wtm_at "vc"
  refine ⟨by show 1 ≤ sizeLine; decide, fun n nn => ?_⟩
  have en := R.Ex.new (o := .lst [y1]) nn
  wtm_at "vc"
  refine ⟨x, d, n, [(y1, d1)], rfl, dp_ex (e3.tr en) hx, SqL.of upd_same, fun p hp => by rw [List.mem_singleton.mp hp]; exact dp_ex (e3.tr en) h1, fun p2 H4 e4 hp4 => ?_⟩
  have e34 := en.tr e4
  have eC4 := e3.tr e34
  obtain ⟨ds, hds, hdl⟩ := due_dp (K := K) (H := H4) (d := d) (yd := [(y1, d1)]) (fun p hp => by rw [List.mem_singleton.mp hp]; exact ⟨dp_ex eC4 h1, l1⟩)
  wtm_at "vc"
  refine ⟨.ref p, .ref p2, .list ds, rfl, .lst (SqL.of (e34 _ _ hp3)) hds, .lst (SqL.of hp4) hds, by show PyData.depthAll ds + 1 ≤ 2; omega, fun H5 e5 => ?_⟩
  have e5' := eC4.tr e5
  have T5 := (T3.ext e34).ext e5
  wtm_at "vc"
  refine ⟨T5, fun H6 n6 T6 => ?_⟩
  have e6 := ex_coreN e5' n6
  refine told_pd rfl rfl rfl rfl (dp_ex e6 hx) (dp_ex e6 h1) (dp_ex e6 h2) (dp_ex e6 h3) hl fun H7 p7 e7 np7 => ?_
  have e8 := (e6.tr e7).tr (R.Ex.new (o := .lst (dueL d [(y1, d1), (y2, d2), (y3, d3)])) np7)
  have T8 := (T6.ext e7).ext (R.Ex.new (o := .lst (dueL d [(y1, d1), (y2, d2), (y3, d3)])) np7)
  have hp8 : (upd H7 p7 (.lst (dueL d [(y1, d1), (y2, d2), (y3, d3)]))) p7 = some (.lst (dueL d [(y1, d1), (y2, d2), (y3, d3)])) := upd_same
  generalize upd H7 p7 (.lst (dueL d [(y1, d1), (y2, d2), (y3, d3)])) = H8 at *
  wtm_at "vc"
  refine ⟨x, d, q, [(y1, d1), (y2, d2), (y3, d3)], rfl, dp_ex e8 hx, e8.l hq, fun p hp => by
    simp at hp
    rcases hp with h | h | h <;> subst h
    · exact dp_ex e8 h1
    · exact dp_ex e8 h2
    · exact dp_ex e8 h3, fun p9 H9 e9 hp9 => ?_⟩
  have eC9 := e8.tr e9
  obtain ⟨ds2, hds2, hdl2⟩ := due_dp (K := K) (H := H9) (d := d) (yd := [(y1, d1), (y2, d2), (y3, d3)]) (fun p hp => by
    simp at hp
    rcases hp with h | h | h <;> subst h
    · exact ⟨dp_ex eC9 h1, l1⟩
    · exact ⟨dp_ex eC9 h2, l2⟩
    · exact ⟨dp_ex eC9 h3, l3⟩)
  wtm_at "vc"
  refine ⟨.ref p7, .ref p9, .list ds2, rfl, .lst (SqL.of (e9 _ _ hp8)) hds2, .lst (SqL.of hp9) hds2, by show PyData.depthAll ds2 + 1 ≤ 2; omega, fun H10 e10 => ?_⟩
  wtm_at "vc"
  exact kk _ (eC9.tr e10) ((T8.ext e9).ext e10)

theorem pw30 {K : PySem.W.Frag} {H : Hp} {Q : VK} (h : Q (.int 1000000000000000000000000000000) H) : U.rPow (.int 10) (.int 30) H Q := R.pw (d := 1000000000000000000000000000000) (by decide) (by decide) (by decide) (by decide) h
/-- a drawn number -/
theorem rd_law {K : PySem.W.Frag} (vs : List V) (H : Hp) (Q : VK) (E : XK) (h : sp_law K vs H Q E) : t_law K E { nx := fun _ H' => Q .non H', rt := Q } (start ["script", "k", "pool", "turn", "given", "some", "odd", "speed", "wait", "hold"] vs) H := by
  obtain ⟨s, ns, rfl, hs, hl, hT, k⟩ := h
  unfold t_law
  wtm_at "vc"
  generalize hm : (((ns.map V.int).length : Nat) : Int) = m
  rw [List.length_map] at hm
  generalize hj : (if (if 40 < m then 40 else m) > 1 then (if 40 < m then 40 else m) else 1) = j
  have j1 : j ≤ 1000 := by rw [← hj]; split <;> (try split) <;> omega
  have j0 : 0 ≤ j := by rw [← hj]; split <;> (try split) <;> omega
  have hs0 := sql_core (S := []) (by simp) hs
  refine R.rngP (by omega) (by omega) (fun i σ H' => ∃ u1 u2 u3 u4 u5 u6 u7 u8 u9, σ = [some (.ref s), u1, u2, u3, u4, u5, u6, u7, u8, u9] ∧ R.Ex (core [] H) H' ∧ LamX.Tabs (lamT K) H') ⟨_, _, _, _, _, _, _, _, _, rfl, core_ex, hT⟩ ?_ ?_
  · rintro i σ H1 hi ⟨u1, u2, u3, u4, u5, u6, u7, u8, u9, rfl, e1, T1⟩
    wtm_at "vc"
    refine ⟨s, ns, i, rfl, e1.l hs0, by omega, fun p H2 np p2 e2 => ?_⟩
    wtm_at "vc"
    refine ⟨p, rfl, p2, fun H3 x d e3 p3 hx hdl => ?_⟩
    wtm_at "vc"
    refine ⟨by decide, fun q nq => ?_⟩
    have qp := p3.other nq
    have npC : core [] H p = none := e1.free np
    have eC2 := e1.tr e2
    have eC3 : R.Ex (core [] H) H3 := fun b o hb => e3 b o (fun z => by subst z; rw [npC] at hb; cases hb) (eC2 b o hb)
    obtain ⟨_, hpl⟩ := p2.lst
    have T3 := tabs_exb (T1.ext e2) hpl e3
    have nqC : core [] H q = none := eC3.free nq
    have g4 : GS K p q (core [] H) (upd H3 q (.lst [])) x d [] := by
      refine ⟨?_, T3.ext fun b u h => R.updOld nq h, p3.old nq, npC, nqC, upd_same, qp, ?_, fun v hv => by cases hv⟩
      · exact fun b o hb => R.updOld nq (eC3 b o (core_of hb).2.1)
      · refine dp_ex (fun b o hb => ?_) hx
        obtain ⟨b1, b2, b3⟩ := core_of hb
        have bq : b ≠ q := fun z => by subst z; rw [nq] at b2; cases b2
        exact core_at (notin2 (fun z => b1 (by simp [z])) bq) (R.updOld nq b2) b3
    generalize upd H3 q (.lst []) = H4 at *
    wtm_at "vc"
    refine ⟨by show 2 ≤ sizeLine; decide, fun t nt => ?_⟩
    have g5 := g4.new (o := .tup [x, .ref q]) nt
    have ht5 : (upd H4 t (.tup [x, .ref q])) t = some (.tup [x, .ref q]) := upd_same
    generalize upd H4 t (.tup [x, .ref q]) = H5 at *
    wtm_at "vc"
    refine R.rngP (by decide) (by decide) (fun i2 σ H' => ∃ v3 v6 xs, σ = [some (.ref s), some (.int (i : Nat)), some (.ref p), v3, some x, some (.ref q), v6, u7, u8, u9] ∧ GS K p q (core [] H) H' x d xs ∧ xs.length = i2) ⟨_, _, [], rfl, g5, rfl⟩ ?_ ?_
    · rintro i2 σ H6 hi2 ⟨v3, v6, xs, rfl, g6, hxs⟩
      wtm_at "vc"
      refine pw30 (K := K) ?_
      wtm_at "vc"
      refine ⟨by show 1 ≤ sizeLine; decide, fun t7 n7 => ?_⟩
      have g7 := g6.new (o := .tup [.int 3]) n7
      have a7 : It1 K [p, q] (upd H6 t7 (.tup [.int 3])) (.ref t7) := ⟨_, .tup (SqT.of (core_at (g6.no n7) upd_same fun ps q => by cases q)) (.cons (.int 3) .nil), by decide⟩
      generalize upd H6 t7 (.tup [.int 3]) = H7 at *
      wtm_at "vc"
      refine ⟨by show 1 ≤ sizeLine; decide, fun t8 n8 => ?_⟩
      have g8 := g7.new (o := .lst [.int 1]) n8
      have a7 := a7.mono (g7.cnew (o := .lst [.int 1]) n8)
      have a8 : It1 K [p, q] (upd H7 t8 (.lst [.int 1])) (.ref t8) := ⟨_, .lst (SqL.of (core_at (g7.no n8) upd_same fun ps q => by cases q)) (.cons (.int 1) .nil), by decide⟩
      generalize upd H7 t8 (.lst [.int 1]) = H8 at *
      wtm_at "vc"
      refine ⟨by show 10 ≤ sizeLine; decide, fun t9 n9 => ?_⟩
      have ten : ∃ L, L = [V.non, V.bl true, V.bl false, V.str "5", V.int (-1), V.int (1000000000 + 1), V.int 1000000000000000000000000000000, V.ref t7, V.ref t8, V.str ""] := ⟨_, rfl⟩
      obtain ⟨L, hL⟩ := ten
      have al : ∀ v ∈ L, It1 K [p, q] H8 v := by
        intro v hv
        rw [hL] at hv
        simp at hv
        rcases hv with h | h | h | h | h | h | h | h | h | h <;> subst h
        · exact ⟨_, .non, by decide⟩
        · exact ⟨_, .bl _, by decide⟩
        · exact ⟨_, .bl _, by decide⟩
        · exact ⟨_, .str _, by decide⟩
        · exact ⟨_, .int _, by decide⟩
        · exact ⟨_, .int _, by decide⟩
        · exact ⟨_, .int _, by decide⟩
        · exact a7
        · exact a8
        · exact ⟨_, .str _, by decide⟩
      have hLl : L.length = 10 := by rw [hL]; rfl
      have g9 := g8.new (o := .lst L) n9
      have al9 : ∀ v ∈ L, It1 K [p, q] (upd H8 t9 (.lst L)) v := fun v hv => (al v hv).mono (g8.cnew n9)
      have h9 : (upd H8 t9 (.lst L)) t9 = some (.lst L) := upd_same
      have t9p := g8.pl.other n9
      show (tCall _ _ _ _) _ (upd H8 t9 (.lst [V.non, V.bl true, V.bl false, V.str "5", V.int (-1), V.int (1000000000 + 1), V.int 1000000000000000000000000000000, V.ref t7, V.ref t8, V.str ""])) _
      rw [← hL]
      generalize upd H8 t9 (.lst L) = H9 at *
      wtm_at "vc"
      refine ⟨p, _, rfl, g9.pl, by decide, by decide, fun ix H10 i0 i1 p10 e10 => ?_⟩
      have g10 := g9.take e10 p10
      refine menuV (It1 K [p, q] H10) (SqL.of (e10 _ _ t9p h9)) i0 (by rw [hLl]; exact i1) (fun v hv => (al9 v hv).mono (GS.ctake e10)) fun y hy => ?_
      have hq10 := g10.hq
      wtm_at "vc"
      refine ⟨p, _, rfl, g10.pl, by decide, by decide, fun z H11 z0 z1 p11 e11 => ?_⟩
      have g11 := g10.take e11 p11
      have hy := hy.mono (GS.ctake e11)
      wtm_at "vc"
      refine ⟨by show 4 ≤ sizeLine; decide, fun t12 n12 => ?_⟩
      have g12 := g11.new (o := .lst [.int z, .int 0, .int 1000000000, y]) n12
      have hy := hy.mono (g11.cnew (o := .lst [.int z, .int 0, .int 1000000000, y]) n12)
      have h12 : (upd H11 t12 (.lst [.int z, .int 0, .int 1000000000, y])) t12 = some (.lst [.int z, .int 0, .int 1000000000, y]) := upd_same
      have t12p := g11.pl.other n12
      generalize upd H11 t12 (.lst [.int z, .int 0, .int 1000000000, y]) = H12 at *
      wtm_at "vc"
      refine ⟨p, _, rfl, g12.pl, by decide, by decide, fun ix2 H13 j0 j1 p13 e13 => ?_⟩
      have g13 := g12.take e13 p13
      have hy := hy.mono (GS.ctake e13)
      have hq13 := g13.hq
      have hl2 : xs.length < sizeLine := by rw [sizeLine_eq]; omega
      refine menuV (It1 K [p, q] H13) (SqL.of (e13 _ _ t12p h12)) j0 j1 (fun v hv => by
        simp at hv
        rcases hv with h | h | h | h <;> subst h
        · exact ⟨_, .int _, by show 0 ≤ 1; decide⟩
        · exact ⟨_, .int _, by decide⟩
        · exact ⟨_, .int _, by decide⟩
        · exact hy) fun y2 hy2 => ?_
      wtm_at "vc"
      exact ⟨_, _, xs ++ [y2], rfl, g13.app hy2, by simp [hxs]⟩
    · rintro σ H6 ⟨v3, v6, xs, rfl, g6, hxs⟩
      have hx3 : ∃ y1 y2 y3, xs = [y1, y2, y3] := by
        match xs, hxs with
        | [a, b, c], _ => exact ⟨a, b, c, rfl⟩
      obtain ⟨y1, y2, y3, rfl⟩ := hx3
      have sub : R.Ex (core [p, q] H6) (core [] H6) := core_mono (fun _ h => by cases h) fun _ _ _ _ h => h
      obtain ⟨d1, hd1, l1⟩ := g6.it y1 (by simp)
      obtain ⟨d2, hd2, l2⟩ := g6.it y2 (by simp)
      obtain ⟨d3, hd3, l3⟩ := g6.it y3 (by simp)
      have hq6 := sql_core (S := []) (by simp) (SqL.of (K := K) g6.hq)
      wtm_at "vc"
      refine Or.inr ⟨q, [y1, y2, y3], rfl, SqL.of g6.hq, rfl, ?_⟩
      wtm_at "vs"
      refine turn_end core_ex g6.T (dp_ex sub g6.x) hdl (dp_ex sub hd1) (dp_ex sub hd2) (dp_ex sub hd3) l1 l2 l3 hq6 fun H7 e7 T7 => ?_
      refine ⟨_, _, _, _, _, _, _, _, _, rfl, fun b o hb => e7 b o (core_at (by simp) (g6.e b o (core_at (by simp) hb (core_of hb).2.2)) (core_of hb).2.2), T7⟩
  · rintro σ H1 ⟨u1, u2, u3, u4, u5, u6, u7, u8, u9, rfl, e1, T1⟩
    wtm_at "vc"
    exact k _

set_option maxHeartbeats 0
/-! the text by places -/
def top (i : Nat) : Stmt := PySem.Challenge.pw_framejoins_k81_budgets_refused.main.body.getD i (.Pass ⟨0, 0, 0, 0⟩)
abbrev s_law_same : Stmt := top 18
abbrev s_law_is_between : Stmt := top 19
abbrev s_law_due : Stmt := top 20
abbrev s_law_told : Stmt := top 21
abbrev s_is_integer : Stmt := top 6
abbrev s_is_between : Stmt := top 7
abbrev s_InvalidNumber_init : Stmt := inClass (top 2) 0
abbrev s_require_number : Stmt := top 11
abbrev s_InvalidPlan_init : Stmt := inClass (top 3) 0
abbrev s_is_row : Stmt := top 8
abbrev s_require_sizes : Stmt := top 12
abbrev s_padding : Stmt := top 14
abbrev s_least_delay : Stmt := top 13
abbrev s_law_take : Stmt := top 17
abbrev s_law_given : Stmt := top 22
abbrev s_law_pool : Stmt := top 16
abbrev s_law : Stmt := top 23
/-! facts -/
def f_law_same : He.DefD := ⟨("_law_same", none), "_law_same", "_law_same", defArgs s_law_same, defBody s_law_same, defScope s_law_same, [], []⟩
def f_law_is_between : He.DefD := ⟨("_law_is_between", none), "_law_is_between", "_law_is_between", defArgs s_law_is_between, defBody s_law_is_between, defScope s_law_is_between, [], []⟩
def f_law_due : He.DefD := ⟨("_law_due", none), "_law_due", "_law_due", defArgs s_law_due, defBody s_law_due, defScope s_law_due, [], []⟩
def f_law_told : He.DefD := ⟨("_law_told", none), "_law_told", "_law_told", defArgs s_law_told, defBody s_law_told, defScope s_law_told, [], []⟩
def f_is_integer : He.DefD := ⟨("is_integer", none), "is_integer", "is_integer", defArgs s_is_integer, defBody s_is_integer, defScope s_is_integer, [], []⟩
def f_is_between : He.DefD := ⟨("is_between", none), "is_between", "is_between", defArgs s_is_between, defBody s_is_between, defScope s_is_between, [], []⟩
def f_InvalidNumber_init : He.DefD := ⟨("InvalidNumber", some "__init__"), "__init__", "InvalidNumber.__init__", defArgs s_InvalidNumber_init, defBody s_InvalidNumber_init, defScope s_InvalidNumber_init, [], []⟩
def f_require_number : He.DefD := ⟨("require_number", none), "require_number", "require_number", defArgs s_require_number, defBody s_require_number, defScope s_require_number, [], []⟩
def f_InvalidPlan_init : He.DefD := ⟨("InvalidPlan", some "__init__"), "__init__", "InvalidPlan.__init__", defArgs s_InvalidPlan_init, defBody s_InvalidPlan_init, defScope s_InvalidPlan_init, [], []⟩
def f_is_row : He.DefD := ⟨("is_row", none), "is_row", "is_row", defArgs s_is_row, defBody s_is_row, defScope s_is_row, [], []⟩
def f_require_sizes : He.DefD := ⟨("require_sizes", none), "require_sizes", "require_sizes", defArgs s_require_sizes, defBody s_require_sizes, defScope s_require_sizes, [], []⟩
def f_padding : He.DefD := ⟨("padding", none), "padding", "padding", defArgs s_padding, defBody s_padding, defScope s_padding, [], []⟩
def f_least_delay : He.DefD := ⟨("least_delay", none), "least_delay", "least_delay", defArgs s_least_delay, defBody s_least_delay, defScope s_least_delay, [], []⟩
def f_law_take : He.DefD := ⟨("_law_take", none), "_law_take", "_law_take", defArgs s_law_take, defBody s_law_take, defScope s_law_take, [], []⟩
def f_law_given : He.DefD := ⟨("_law_given", none), "_law_given", "_law_given", defArgs s_law_given, defBody s_law_given, defScope s_law_given, [], []⟩
def f_law_pool : He.DefD := ⟨("_law_pool", none), "_law_pool", "_law_pool", defArgs s_law_pool, defBody s_law_pool, defScope s_law_pool, [], []⟩
def f_law : He.DefD := ⟨("law", none), "law", "law", defArgs s_law, defBody s_law, defScope s_law, [], []⟩
def fn : List He.DefD := [f_law_same, f_law_is_between, f_law_due, f_law_told, f_is_integer, f_is_between, f_InvalidNumber_init, f_require_number, f_InvalidPlan_init, f_is_row, f_require_sizes, f_padding, f_least_delay, f_law_take, f_law_given, f_law_pool, f_law]
def fa : List He.Fa := [.glo "_law_same",
  .glo "_law_is_between",
  .glo "_law_due",
  .glo "_law_told",
  .glo "is_integer",
  .glo "is_between",
  .glo "require_number",
  .glo "is_row",
  .glo "require_sizes",
  .glo "padding",
  .glo "least_delay",
  .glo "_law_take",
  .glo "_law_given",
  .glo "_law_pool",
  .glo "law",
  .free "abs",
  .free "bool",
  .free "enumerate",
  .free "int",
  .free "isinstance",
  .free "len",
  .free "list",
  .free "max",
  .free "min",
  .free "range",
  .free "str",
  .free "tuple",
  .free "zip",
  .glo "InvalidNumber",
  .glo "InvalidPlace",
  .glo "InvalidPlan",
  .glo "JoinError",
  .int "MOST" 1000000000]
def exl : List (PySem.W.Frag → Bool) := [fun K => Xn.clsB K (He.ga K "InvalidNumber") (He.fAd K ("InvalidNumber", some "__init__")) "value",
  fun K => Xn.clsB K (He.ga K "InvalidPlan") (He.fAd K ("InvalidPlan", some "__init__")) "index",
  fun K => Xn.baseB K (He.ga K "JoinError"),
  fun K => decide (PySem.W.exmOne K (.ref (He.ga K "InvalidPlan")) (.ref (He.ga K "InvalidPlan")) = some true),
  fun K => decide (PySem.W.exmOne K (.ref (He.ga K "InvalidNumber")) (.ref (He.ga K "InvalidPlan")) = some false),
  fun K => decide (PySem.W.exmOne K (.ref (He.ga K "InvalidNumber")) (.ref (He.ga K "InvalidNumber")) = some true),
  fun K => decide (PySem.W.kitOne K (.ref (He.ga K "InvalidPlan")) (.ref (He.ga K "JoinError")) = some true),
  fun K => decide (PySem.W.kitOne K (.ref (He.ga K "InvalidPlan")) (.ref (He.ga K "InvalidNumber")) = some false),
  fun K => decide (PySem.W.kitOne K (.ref (He.ga K "InvalidNumber")) (.ref (He.ga K "JoinError")) = some true),
  fun K => decide (PySem.W.kitOne K (.ref (He.ga K "InvalidNumber")) (.ref (He.ga K "InvalidPlace")) = some false)]
structure Env (P : Program) (w : World) (K : PySem.W.Frag) (mg : Str → Option Value) (base : Heap) : Prop where
  X : ∃ h : Heap, K.In h ∧ h.Ns mainGlobals mg
  c : He.SaysD fa fn K
  m : (exl.all fun f => f K) = true
section
variable {P : Program} {w : World} {K : PySem.W.Frag} {mg : Str → Option Value} {base : Heap}
theorem Env.g_law_same (e : Env P w K mg base) : mg "_law_same" = some (.ref (He.ga K "_law_same")) := let ⟨_, X, G⟩ := e.X; He.glo_ok X G (e.c.fact 0 (f := .glo "_law_same") rfl)
theorem Env.g_law_is_between (e : Env P w K mg base) : mg "_law_is_between" = some (.ref (He.ga K "_law_is_between")) := let ⟨_, X, G⟩ := e.X; He.glo_ok X G (e.c.fact 1 (f := .glo "_law_is_between") rfl)
theorem Env.g_law_due (e : Env P w K mg base) : mg "_law_due" = some (.ref (He.ga K "_law_due")) := let ⟨_, X, G⟩ := e.X; He.glo_ok X G (e.c.fact 2 (f := .glo "_law_due") rfl)
theorem Env.g_law_told (e : Env P w K mg base) : mg "_law_told" = some (.ref (He.ga K "_law_told")) := let ⟨_, X, G⟩ := e.X; He.glo_ok X G (e.c.fact 3 (f := .glo "_law_told") rfl)
theorem Env.g_is_integer (e : Env P w K mg base) : mg "is_integer" = some (.ref (He.ga K "is_integer")) := let ⟨_, X, G⟩ := e.X; He.glo_ok X G (e.c.fact 4 (f := .glo "is_integer") rfl)
theorem Env.g_is_between (e : Env P w K mg base) : mg "is_between" = some (.ref (He.ga K "is_between")) := let ⟨_, X, G⟩ := e.X; He.glo_ok X G (e.c.fact 5 (f := .glo "is_between") rfl)
theorem Env.g_require_number (e : Env P w K mg base) : mg "require_number" = some (.ref (He.ga K "require_number")) := let ⟨_, X, G⟩ := e.X; He.glo_ok X G (e.c.fact 6 (f := .glo "require_number") rfl)
theorem Env.g_is_row (e : Env P w K mg base) : mg "is_row" = some (.ref (He.ga K "is_row")) := let ⟨_, X, G⟩ := e.X; He.glo_ok X G (e.c.fact 7 (f := .glo "is_row") rfl)
theorem Env.g_require_sizes (e : Env P w K mg base) : mg "require_sizes" = some (.ref (He.ga K "require_sizes")) := let ⟨_, X, G⟩ := e.X; He.glo_ok X G (e.c.fact 8 (f := .glo "require_sizes") rfl)
theorem Env.g_padding (e : Env P w K mg base) : mg "padding" = some (.ref (He.ga K "padding")) := let ⟨_, X, G⟩ := e.X; He.glo_ok X G (e.c.fact 9 (f := .glo "padding") rfl)
theorem Env.g_least_delay (e : Env P w K mg base) : mg "least_delay" = some (.ref (He.ga K "least_delay")) := let ⟨_, X, G⟩ := e.X; He.glo_ok X G (e.c.fact 10 (f := .glo "least_delay") rfl)
theorem Env.g_law_take (e : Env P w K mg base) : mg "_law_take" = some (.ref (He.ga K "_law_take")) := let ⟨_, X, G⟩ := e.X; He.glo_ok X G (e.c.fact 11 (f := .glo "_law_take") rfl)
theorem Env.g_law_given (e : Env P w K mg base) : mg "_law_given" = some (.ref (He.ga K "_law_given")) := let ⟨_, X, G⟩ := e.X; He.glo_ok X G (e.c.fact 12 (f := .glo "_law_given") rfl)
theorem Env.g_law_pool (e : Env P w K mg base) : mg "_law_pool" = some (.ref (He.ga K "_law_pool")) := let ⟨_, X, G⟩ := e.X; He.glo_ok X G (e.c.fact 13 (f := .glo "_law_pool") rfl)
theorem Env.g_law (e : Env P w K mg base) : mg "law" = some (.ref (He.ga K "law")) := let ⟨_, X, G⟩ := e.X; He.glo_ok X G (e.c.fact 14 (f := .glo "law") rfl)
theorem Env.b_abs (e : Env P w K mg base) : mg "abs" = none := let ⟨_, X, G⟩ := e.X; He.free_ok X G (e.c.fact 15 (f := .free "abs") rfl)
theorem Env.b_bool (e : Env P w K mg base) : mg "bool" = none := let ⟨_, X, G⟩ := e.X; He.free_ok X G (e.c.fact 16 (f := .free "bool") rfl)
theorem Env.b_enumerate (e : Env P w K mg base) : mg "enumerate" = none := let ⟨_, X, G⟩ := e.X; He.free_ok X G (e.c.fact 17 (f := .free "enumerate") rfl)
theorem Env.b_int (e : Env P w K mg base) : mg "int" = none := let ⟨_, X, G⟩ := e.X; He.free_ok X G (e.c.fact 18 (f := .free "int") rfl)
theorem Env.b_isinstance (e : Env P w K mg base) : mg "isinstance" = none := let ⟨_, X, G⟩ := e.X; He.free_ok X G (e.c.fact 19 (f := .free "isinstance") rfl)
theorem Env.b_len (e : Env P w K mg base) : mg "len" = none := let ⟨_, X, G⟩ := e.X; He.free_ok X G (e.c.fact 20 (f := .free "len") rfl)
theorem Env.b_list (e : Env P w K mg base) : mg "list" = none := let ⟨_, X, G⟩ := e.X; He.free_ok X G (e.c.fact 21 (f := .free "list") rfl)
theorem Env.b_max (e : Env P w K mg base) : mg "max" = none := let ⟨_, X, G⟩ := e.X; He.free_ok X G (e.c.fact 22 (f := .free "max") rfl)
theorem Env.b_min (e : Env P w K mg base) : mg "min" = none := let ⟨_, X, G⟩ := e.X; He.free_ok X G (e.c.fact 23 (f := .free "min") rfl)
theorem Env.b_range (e : Env P w K mg base) : mg "range" = none := let ⟨_, X, G⟩ := e.X; He.free_ok X G (e.c.fact 24 (f := .free "range") rfl)
theorem Env.b_str (e : Env P w K mg base) : mg "str" = none := let ⟨_, X, G⟩ := e.X; He.free_ok X G (e.c.fact 25 (f := .free "str") rfl)
theorem Env.b_tuple (e : Env P w K mg base) : mg "tuple" = none := let ⟨_, X, G⟩ := e.X; He.free_ok X G (e.c.fact 26 (f := .free "tuple") rfl)
theorem Env.b_zip (e : Env P w K mg base) : mg "zip" = none := let ⟨_, X, G⟩ := e.X; He.free_ok X G (e.c.fact 27 (f := .free "zip") rfl)
theorem Env.g_InvalidNumber (e : Env P w K mg base) : mg "InvalidNumber" = some (.ref (He.ga K "InvalidNumber")) := let ⟨_, X, G⟩ := e.X; He.glo_ok X G (e.c.fact 28 (f := .glo "InvalidNumber") rfl)
theorem Env.g_InvalidPlace (e : Env P w K mg base) : mg "InvalidPlace" = some (.ref (He.ga K "InvalidPlace")) := let ⟨_, X, G⟩ := e.X; He.glo_ok X G (e.c.fact 29 (f := .glo "InvalidPlace") rfl)
theorem Env.g_InvalidPlan (e : Env P w K mg base) : mg "InvalidPlan" = some (.ref (He.ga K "InvalidPlan")) := let ⟨_, X, G⟩ := e.X; He.glo_ok X G (e.c.fact 30 (f := .glo "InvalidPlan") rfl)
theorem Env.g_JoinError (e : Env P w K mg base) : mg "JoinError" = some (.ref (He.ga K "JoinError")) := let ⟨_, X, G⟩ := e.X; He.glo_ok X G (e.c.fact 31 (f := .glo "JoinError") rfl)
theorem Env.g_MOST (e : Env P w K mg base) : ∃ u, mg "MOST" = some u ∧ RelV c_MOST u := by
  obtain ⟨_, X, G⟩ := e.X
  obtain ⟨t, h⟩ := He.int_ok X G (e.c.fact 32 (f := .int "MOST" 1000000000) rfl)
  exact ⟨_, h, t, rfl⟩
theorem Env.d_law_same (e : Env P w K mg base) : ∃ fd, FunD K "_law_same" "_law_same" (defArgs s_law_same) (defBody s_law_same) (defScope s_law_same) [] [] (He.ga K "_law_same") fd := e.c.def_ 0 (d := f_law_same) rfl
theorem Env.d_law_is_between (e : Env P w K mg base) : ∃ fd, FunD K "_law_is_between" "_law_is_between" (defArgs s_law_is_between) (defBody s_law_is_between) (defScope s_law_is_between) [] [] (He.ga K "_law_is_between") fd := e.c.def_ 1 (d := f_law_is_between) rfl
theorem Env.d_law_due (e : Env P w K mg base) : ∃ fd, FunD K "_law_due" "_law_due" (defArgs s_law_due) (defBody s_law_due) (defScope s_law_due) [] [] (He.ga K "_law_due") fd := e.c.def_ 2 (d := f_law_due) rfl
theorem Env.d_law_told (e : Env P w K mg base) : ∃ fd, FunD K "_law_told" "_law_told" (defArgs s_law_told) (defBody s_law_told) (defScope s_law_told) [] [] (He.ga K "_law_told") fd := e.c.def_ 3 (d := f_law_told) rfl
theorem Env.d_is_integer (e : Env P w K mg base) : ∃ fd, FunD K "is_integer" "is_integer" (defArgs s_is_integer) (defBody s_is_integer) (defScope s_is_integer) [] [] (He.ga K "is_integer") fd := e.c.def_ 4 (d := f_is_integer) rfl
theorem Env.d_is_between (e : Env P w K mg base) : ∃ fd, FunD K "is_between" "is_between" (defArgs s_is_between) (defBody s_is_between) (defScope s_is_between) [] [] (He.ga K "is_between") fd := e.c.def_ 5 (d := f_is_between) rfl
theorem Env.d_InvalidNumber_init (e : Env P w K mg base) : ∃ fd, FunD K "__init__" "InvalidNumber.__init__" (defArgs s_InvalidNumber_init) (defBody s_InvalidNumber_init) (defScope s_InvalidNumber_init) [] [] (He.fAd K ("InvalidNumber", some "__init__")) fd := e.c.def_ 6 (d := f_InvalidNumber_init) rfl
theorem Env.d_require_number (e : Env P w K mg base) : ∃ fd, FunD K "require_number" "require_number" (defArgs s_require_number) (defBody s_require_number) (defScope s_require_number) [] [] (He.ga K "require_number") fd := e.c.def_ 7 (d := f_require_number) rfl
theorem Env.d_InvalidPlan_init (e : Env P w K mg base) : ∃ fd, FunD K "__init__" "InvalidPlan.__init__" (defArgs s_InvalidPlan_init) (defBody s_InvalidPlan_init) (defScope s_InvalidPlan_init) [] [] (He.fAd K ("InvalidPlan", some "__init__")) fd := e.c.def_ 8 (d := f_InvalidPlan_init) rfl
theorem Env.d_is_row (e : Env P w K mg base) : ∃ fd, FunD K "is_row" "is_row" (defArgs s_is_row) (defBody s_is_row) (defScope s_is_row) [] [] (He.ga K "is_row") fd := e.c.def_ 9 (d := f_is_row) rfl
theorem Env.d_require_sizes (e : Env P w K mg base) : ∃ fd, FunD K "require_sizes" "require_sizes" (defArgs s_require_sizes) (defBody s_require_sizes) (defScope s_require_sizes) [] [] (He.ga K "require_sizes") fd := e.c.def_ 10 (d := f_require_sizes) rfl
theorem Env.d_padding (e : Env P w K mg base) : ∃ fd, FunD K "padding" "padding" (defArgs s_padding) (defBody s_padding) (defScope s_padding) [] [] (He.ga K "padding") fd := e.c.def_ 11 (d := f_padding) rfl
theorem Env.d_least_delay (e : Env P w K mg base) : ∃ fd, FunD K "least_delay" "least_delay" (defArgs s_least_delay) (defBody s_least_delay) (defScope s_least_delay) [] [] (He.ga K "least_delay") fd := e.c.def_ 12 (d := f_least_delay) rfl
theorem Env.d_law_take (e : Env P w K mg base) : ∃ fd, FunD K "_law_take" "_law_take" (defArgs s_law_take) (defBody s_law_take) (defScope s_law_take) [] [] (He.ga K "_law_take") fd := e.c.def_ 13 (d := f_law_take) rfl
theorem Env.d_law_given (e : Env P w K mg base) : ∃ fd, FunD K "_law_given" "_law_given" (defArgs s_law_given) (defBody s_law_given) (defScope s_law_given) [] [] (He.ga K "_law_given") fd := e.c.def_ 14 (d := f_law_given) rfl
theorem Env.d_law_pool (e : Env P w K mg base) : ∃ fd, FunD K "_law_pool" "_law_pool" (defArgs s_law_pool) (defBody s_law_pool) (defScope s_law_pool) [] [] (He.ga K "_law_pool") fd := e.c.def_ 15 (d := f_law_pool) rfl
theorem Env.d_law (e : Env P w K mg base) : ∃ fd, FunD K "law" "law" (defArgs s_law) (defBody s_law) (defScope s_law) [] [] (He.ga K "law") fd := e.c.def_ 16 (d := f_law) rfl
theorem Env.x_InvalidNumber (e : Env P w K mg base) : Xn.ClsF K (He.ga K "InvalidNumber") (He.fAd K ("InvalidNumber", some "__init__")) "value" := Xn.clsB_ok (Xn.all_at e.m 0 (f := fun K => Xn.clsB K (He.ga K "InvalidNumber") (He.fAd K ("InvalidNumber", some "__init__")) "value") rfl)
theorem Env.x_InvalidPlan (e : Env P w K mg base) : Xn.ClsF K (He.ga K "InvalidPlan") (He.fAd K ("InvalidPlan", some "__init__")) "index" := Xn.clsB_ok (Xn.all_at e.m 1 (f := fun K => Xn.clsB K (He.ga K "InvalidPlan") (He.fAd K ("InvalidPlan", some "__init__")) "index") rfl)
theorem Env.y_JoinError (e : Env P w K mg base) : Xn.BaseF K (He.ga K "JoinError") := Xn.baseB_ok (Xn.all_at e.m 2 (f := fun K => Xn.baseB K (He.ga K "JoinError")) rfl)
theorem Env.m_InvalidPlan_InvalidPlan (e : Env P w K mg base) : PySem.W.exmOne K (.ref (He.ga K "InvalidPlan")) (.ref (He.ga K "InvalidPlan")) = some true := of_decide_eq_true (Xn.all_at e.m 3 (f := fun K => decide (PySem.W.exmOne K (.ref (He.ga K "InvalidPlan")) (.ref (He.ga K "InvalidPlan")) = some true)) rfl)
theorem Env.m_InvalidNumber_InvalidPlan (e : Env P w K mg base) : PySem.W.exmOne K (.ref (He.ga K "InvalidNumber")) (.ref (He.ga K "InvalidPlan")) = some false := of_decide_eq_true (Xn.all_at e.m 4 (f := fun K => decide (PySem.W.exmOne K (.ref (He.ga K "InvalidNumber")) (.ref (He.ga K "InvalidPlan")) = some false)) rfl)
theorem Env.m_InvalidNumber_InvalidNumber (e : Env P w K mg base) : PySem.W.exmOne K (.ref (He.ga K "InvalidNumber")) (.ref (He.ga K "InvalidNumber")) = some true := of_decide_eq_true (Xn.all_at e.m 5 (f := fun K => decide (PySem.W.exmOne K (.ref (He.ga K "InvalidNumber")) (.ref (He.ga K "InvalidNumber")) = some true)) rfl)
theorem Env.k_InvalidPlan_JoinError (e : Env P w K mg base) : PySem.W.kitOne K (.ref (He.ga K "InvalidPlan")) (.ref (He.ga K "JoinError")) = some true := of_decide_eq_true (Xn.all_at e.m 6 (f := fun K => decide (PySem.W.kitOne K (.ref (He.ga K "InvalidPlan")) (.ref (He.ga K "JoinError")) = some true)) rfl)
theorem Env.k_InvalidPlan_InvalidNumber (e : Env P w K mg base) : PySem.W.kitOne K (.ref (He.ga K "InvalidPlan")) (.ref (He.ga K "InvalidNumber")) = some false := of_decide_eq_true (Xn.all_at e.m 7 (f := fun K => decide (PySem.W.kitOne K (.ref (He.ga K "InvalidPlan")) (.ref (He.ga K "InvalidNumber")) = some false)) rfl)
theorem Env.k_InvalidNumber_JoinError (e : Env P w K mg base) : PySem.W.kitOne K (.ref (He.ga K "InvalidNumber")) (.ref (He.ga K "JoinError")) = some true := of_decide_eq_true (Xn.all_at e.m 8 (f := fun K => decide (PySem.W.kitOne K (.ref (He.ga K "InvalidNumber")) (.ref (He.ga K "JoinError")) = some true)) rfl)
theorem Env.k_InvalidNumber_InvalidPlace (e : Env P w K mg base) : PySem.W.kitOne K (.ref (He.ga K "InvalidNumber")) (.ref (He.ga K "InvalidPlace")) = some false := of_decide_eq_true (Xn.all_at e.m 9 (f := fun K => decide (PySem.W.kitOne K (.ref (He.ga K "InvalidNumber")) (.ref (He.ga K "InvalidPlace")) = some false)) rfl)
theorem Env.fx (e : Env P w K mg base) : Fx K := ⟨e.x_InvalidNumber, e.x_InvalidPlan⟩
end
/-! scopes -/
theorem sc_law_same : FnScope ["actual", "due", "one", "other"] ["actual", "due"] (defScope s_law_same) := ⟨rfl, rfl, rfl, by decide +kernel, rfl, by decide +kernel, by decide +kernel⟩
theorem sc_law_is_between : FnScope ["one", "least", "most"] ["one", "least", "most"] (defScope s_law_is_between) := ⟨rfl, rfl, rfl, by decide +kernel, rfl, by decide +kernel, by decide +kernel⟩
theorem sc_law_due : FnScope ["given", "numbers", "one", "at", "item"] ["given", "numbers"] (defScope s_law_due) := ⟨rfl, rfl, rfl, by decide +kernel, rfl, by decide +kernel, by decide +kernel⟩
theorem sc_law_told : FnScope ["call", "e"] ["call"] (defScope s_law_told) := ⟨rfl, rfl, rfl, by decide +kernel, rfl, by decide +kernel, by decide +kernel⟩
theorem sc_is_integer : FnScope ["value"] ["value"] (defScope s_is_integer) := ⟨rfl, rfl, rfl, by decide +kernel, rfl, by decide +kernel, by decide +kernel⟩
theorem sc_is_between : FnScope ["value", "least", "most"] ["value", "least", "most"] (defScope s_is_between) := ⟨rfl, rfl, rfl, by decide +kernel, rfl, by decide +kernel, by decide +kernel⟩
theorem sc_InvalidNumber_init : FnScope ["self", "value"] ["self", "value"] (defScope s_InvalidNumber_init) := ⟨rfl, rfl, rfl, by decide +kernel, rfl, by decide +kernel, by decide +kernel⟩
theorem sc_require_number : FnScope ["value"] ["value"] (defScope s_require_number) := ⟨rfl, rfl, rfl, by decide +kernel, rfl, by decide +kernel, by decide +kernel⟩
theorem sc_InvalidPlan_init : FnScope ["self", "index"] ["self", "index"] (defScope s_InvalidPlan_init) := ⟨rfl, rfl, rfl, by decide +kernel, rfl, by decide +kernel, by decide +kernel⟩
theorem sc_is_row : FnScope ["value"] ["value"] (defScope s_is_row) := ⟨rfl, rfl, rfl, by decide +kernel, rfl, by decide +kernel, by decide +kernel⟩
theorem sc_require_sizes : FnScope ["sizes", "index", "item"] ["sizes"] (defScope s_require_sizes) := ⟨rfl, rfl, rfl, by decide +kernel, rfl, by decide +kernel, by decide +kernel⟩
theorem sc_padding : FnScope ["sizes", "rate", "delay", "store", "value", "found", "total", "arrived", "first", "frame", "later", "added", "size", "length"] ["sizes", "rate", "delay", "store"] (defScope s_padding) := ⟨rfl, rfl, rfl, by decide +kernel, rfl, by decide +kernel, by decide +kernel⟩
theorem sc_least_delay : FnScope ["sizes", "rate", "found", "total", "delivered", "size", "length"] ["sizes", "rate"] (defScope s_least_delay) := ⟨rfl, rfl, rfl, by decide +kernel, rfl, by decide +kernel, by decide +kernel⟩
theorem sc_law_take : FnScope ["pool", "many", "found"] ["pool", "many"] (defScope s_law_take) := ⟨rfl, rfl, rfl, by decide +kernel, rfl, by decide +kernel, by decide +kernel⟩
theorem sc_law_given : FnScope ["pool", "found", "turn", "bad", "item", "one", "many"] ["pool"] (defScope s_law_given) := ⟨rfl, rfl, rfl, by decide +kernel, rfl, by decide +kernel, by decide +kernel⟩
theorem sc_law_pool : FnScope ["script", "k", "cell", "great", "seed"] ["script", "k"] (defScope s_law_pool) := ⟨rfl, rfl, rfl, by decide +kernel, rfl, by decide +kernel, by decide +kernel⟩
theorem sc_law : FnScope ["script", "k", "pool", "turn", "given", "some", "odd", "speed", "wait", "hold"] ["script"] (defScope s_law) := ⟨rfl, rfl, rfl, by decide +kernel, rfl, by decide +kernel, by decide +kernel⟩
/-! the head -/
abbrev R : PySem.W.OpenRow := PySem.W.OpenLaw.row PySem.Challenge.rw_framejoins_k81_budgets_refused
def tf : List He.Defn := [("law", none)]
def ex (K : PySem.W.Frag) : Bool := exl.all fun f => f K
abbrev hk : PySem.W.Hook := Xn.hookY 4 fa fn tf ex
def ob (s : PySem.W.SharedT) : He.AlX := Xn.obsY 4 fa fn tf ex (HandSHeadRun.getT s)
theorem ob_eq (s : PySem.W.SharedT) : ob s = hk.obs s.abs := Xn.obsY_eq (HandSHeadRun.getT_eq s)
theorem run (w : World) : HandSHeadRun.RunEq R (PySem.W.view R.prog [23]) hk ob 4000 ["JoinError", "InvalidNumber", "InvalidPlan", "InvalidPlace", "is_integer", "is_between", "is_row", "MOST", "require_number", "require_sizes", "least_delay", "padding", "_law_pool", "_law_take", "_law_same", "_law_is_between", "_law_due", "_law_told", "_law_given"] w := by
  intro os
  kernel_rfl

section
variable {P : Program} {w : World} {K : PySem.W.Frag} {mg : Str → Option Value} {base : Heap}
theorem ok_law_same (e : Env P w K mg base) : ∀ n : Nat, U.GFn P w K mg base (n + 1) "_law_same" ["actual", "due"] (sp_law_same K n)
  | 0 => by
    obtain ⟨fd, F⟩ := e.d_law_same
    exact ⟨_, fd, F.ok sc_law_same len_law_same (fun cdv A outer s H vs Q E hr h => h.elim), e.g_law_same, F.kp, FunD.bindsN F fun _ _ _ _ _ _ us hl => match us, hl with | [_, _], _ => rfl⟩
  | n + 1 => by
    have G_law_same := ok_law_same e n
    obtain ⟨fd, F⟩ := e.d_law_same
    refine ⟨_, fd, F.ok sc_law_same len_law_same (fun cdv A outer s H vs Q E hr h => ⟨t_law_same K n E, ?_, rd_law_same vs H Q E h⟩), e.g_law_same, F.kp, FunD.bindsN F fun _ _ _ _ _ _ us hl => match us, hl with | [_, _], _ => rfl⟩
    exact U.body fun px1 po1 => (pss_cons (ps_if (pt_cmp (pc_isN (pv 1))) (pss_one (ps_ret (pe_cmp (pc_isN (pv 0)))))
    pss_nil)
    (pss_cons (ps_if (pt_val (pe_callB call_isi (by rfl) e.b_isinstance PyProof.Rows.boot_isinstance (pa_cons (pv 1) (pa_cons (pe_bltn rfl e.b_bool PyProof.Rows.boot_bool rfl) pa_nil)))) (pss_one (ps_ret (pe_and (pe_callB call_isi (by rfl) e.b_isinstance PyProof.Rows.boot_isinstance (pa_cons (pv 0) (pa_cons (pe_bltn rfl e.b_bool PyProof.Rows.boot_bool rfl) pa_nil))) (pe_one (pe_cmpR (U.op_equ hr.units) (pv 0) (pv 1) (nomark _))))))
    pss_nil)
    (pss_cons (ps_if (pt_val (pe_callB call_isi (by rfl) e.b_isinstance PyProof.Rows.boot_isinstance (pa_cons (pv 1) (pa_cons (pe_bltn rfl e.b_int PyProof.Rows.boot_int rfl) pa_nil)))) (pss_one (ps_ret (pe_and (pe_callB call_isi (by rfl) e.b_isinstance PyProof.Rows.boot_isinstance (pa_cons (pv 0) (pa_cons (pe_bltn rfl e.b_int PyProof.Rows.boot_int rfl) pa_nil))) (pe_and (pe_not (pe_callB call_isi (by rfl) e.b_isinstance PyProof.Rows.boot_isinstance (pa_cons (pv 0) (pa_cons (pe_bltn rfl e.b_bool PyProof.Rows.boot_bool rfl) pa_nil)))) (pe_one (pe_cmpR (U.op_equ hr.units) (pv 0) (pv 1) (nomark _)))))))
    pss_nil)
    (pss_cons (ps_if (pt_val (pe_callB call_isi (by rfl) e.b_isinstance PyProof.Rows.boot_isinstance (pa_cons (pv 1) (pa_cons (pe_bltn rfl e.b_str PyProof.Rows.boot_str rfl) pa_nil)))) (pss_one (ps_ret (pe_and (pe_callB call_isi (by rfl) e.b_isinstance PyProof.Rows.boot_isinstance (pa_cons (pv 0) (pa_cons (pe_bltn rfl e.b_str PyProof.Rows.boot_str rfl) pa_nil))) (pe_one (pe_cmpR (U.op_equ hr.units) (pv 0) (pv 1) (nomark _))))))
    pss_nil)
    (pss_cons (ps_if (PW.pt (pw_and (pt_val (pe_callB call_isi (by rfl) e.b_isinstance PyProof.Rows.boot_isinstance (pa_cons (pv 1) (pa_cons (pe_bltn rfl e.b_list PyProof.Rows.boot_list rfl) pa_nil)))) (pw_and1 (pt_not (pt_val (pe_callB call_isi (by rfl) e.b_isinstance PyProof.Rows.boot_isinstance (pa_cons (pv 0) (pa_cons (pe_bltn rfl e.b_list PyProof.Rows.boot_list rfl) pa_nil)))))))) (pss_one (ps_ret pe_bl))
    pss_nil)
    (pss_cons (ps_if (PW.pt (pw_and (pt_val (pe_callB call_isi (by rfl) e.b_isinstance PyProof.Rows.boot_isinstance (pa_cons (pv 1) (pa_cons (pe_bltn rfl e.b_tuple PyProof.Rows.boot_tuple rfl) pa_nil)))) (pw_and1 (pt_not (pt_val (pe_callB call_isi (by rfl) e.b_isinstance PyProof.Rows.boot_isinstance (pa_cons (pv 0) (pa_cons (pe_bltn rfl e.b_tuple PyProof.Rows.boot_tuple rfl) pa_nil)))))))) (pss_one (ps_ret pe_bl))
    pss_nil)
    (pss_cons (ps_if (pt_cmpR (U.op_neu hr.units) (pe_callB U.call_ln (by rfl) e.b_len PySem.boot_len (pa_cons (pv 0) pa_nil)) (pe_callB U.call_ln (by rfl) e.b_len PySem.boot_len (pa_cons (pv 1) pa_nil)) (nomark _)) (pss_one (ps_ret pe_bl))
    pss_nil)
    (pss_cons (ps_for po1 rfl (RZ.pi_zipA (by rfl) e.b_zip (pa_cons (pv 0) (pa_cons (pv 1) pa_nil))) (pg_tup rfl (pgs_cons (pg_name (i := 2) sc_law_same.nd rfl (Or.inl rfl)) (pgs_cons (pg_name (i := 3) sc_law_same.nd rfl (Or.inl rfl)) pgs_nil)))
    (pss_one (ps_if (pt_not (pt_val (U.pe_g G_law_same (hr.mono (by omega)) rfl px1 (pa_cons (pv 2) (pa_cons (pv 3) pa_nil))))) (pss_one (ps_ret pe_bl))
    pss_nil)))
    (pss_one (ps_ret pe_bl))))))))))
theorem ok_law_is_between (e : Env P w K mg base) : U.GFn P w K mg base 1 "_law_is_between" ["one", "least", "most"] (sp_law_is_between K) := by
  obtain ⟨fd, F⟩ := e.d_law_is_between
  refine ⟨_, fd, F.ok sc_law_is_between len_law_is_between (fun cdv A outer s H vs Q E hr h => ⟨t_law_is_between K E, ?_, rd_law_is_between vs H Q E h⟩), e.g_law_is_between, F.kp, FunD.bindsN F fun _ _ _ _ _ _ us hl => match us, hl with | [_, _, _], _ => rfl⟩
  exact U.body fun px1 po1 => (pss_one (ps_ret (pe_and (pe_callB call_isi (by rfl) e.b_isinstance PyProof.Rows.boot_isinstance (pa_cons (pv 0) (pa_cons (pe_bltn rfl e.b_int PyProof.Rows.boot_int rfl) pa_nil))) (pe_and (pe_not (pe_callB call_isi (by rfl) e.b_isinstance PyProof.Rows.boot_isinstance (pa_cons (pv 0) (pa_cons (pe_bltn rfl e.b_bool PyProof.Rows.boot_bool rfl) pa_nil)))) (pe_one (pe_chain op_le op_le (pv 1) (pv 0) (pv 2)))))))
theorem ok_law_due (e : Env P w K mg base) : U.GFn P w K mg base 2 "_law_due" ["given", "numbers"] (sp_law_due K) := by
  have G_law_is_between := ok_law_is_between e
  obtain ⟨fd, F⟩ := e.d_law_due
  refine ⟨_, fd, F.ok sc_law_due len_law_due (fun cdv A outer s H vs Q E hr h => ⟨t_law_due K E, ?_, rd_law_due vs H Q E h⟩), e.g_law_due, F.kp, FunD.bindsN F fun _ _ _ _ _ _ us hl => match us, hl with | [_, _], _ => rfl⟩
  exact U.body fun px1 po1 => (pss_cons (ps_if (PW.pt (pw_and (pt_not (pt_val (pe_callB call_isi (by rfl) e.b_isinstance PyProof.Rows.boot_isinstance (pa_cons (pv 0) (pa_cons (pe_bltn rfl e.b_list PyProof.Rows.boot_list rfl) pa_nil))))) (pw_and1 (pt_not (pt_val (pe_callB call_isi (by rfl) e.b_isinstance PyProof.Rows.boot_isinstance (pa_cons (pv 0) (pa_cons (pe_bltn rfl e.b_tuple PyProof.Rows.boot_tuple rfl) pa_nil)))))))) (pss_one (ps_ret (pe_lst (pa_cons pe_str (pa_cons pe_non pa_nil)))))
    pss_nil)
    (pss_cons (ps_for po1 rfl (U.pi_en (by rfl) e.b_enumerate (pa_cons (pv 0) pa_nil)) (pg_tup rfl (pgs_cons (pg_name (i := 3) sc_law_due.nd rfl (Or.inl rfl)) (pgs_cons (pg_name (i := 4) sc_law_due.nd rfl (Or.inl rfl)) pgs_nil)))
    (pss_cons (ps_if (PW.pt (pw_or (pt_not (pt_val (pe_callB call_isi (by rfl) e.b_isinstance PyProof.Rows.boot_isinstance (pa_cons (pv 4) (pa_cons (pe_bltn rfl e.b_tuple PyProof.Rows.boot_tuple rfl) pa_nil))))) (pw_or1 (pt_cmpR (U.op_neu hr.units) (pe_callB U.call_ln (by rfl) e.b_len PySem.boot_len (pa_cons (pv 4) pa_nil)) pe_int (nomark _))))) (pss_one (ps_ret (pe_lst (pa_cons pe_str (pa_cons (pv 3) pa_nil)))))
    pss_nil)
    (pss_one (ps_if (PW.pt (pw_or (pt_not (pt_val (U.pe_g G_law_is_between (hr.mono (by omega)) rfl px1 (pa_cons (pe_ix ix_seq (pv 4) pe_int (fun _ _ => rfl)) (pa_cons pe_int (pa_cons (pe_op op_pow pe_int pe_int) pa_nil)))))) (pw_or1 (pt_not (pt_val (U.pe_g G_law_is_between (hr.mono (by omega)) rfl px1 (pa_cons (pe_ix ix_seq (pv 4) pe_int (fun _ _ => rfl)) (pa_cons pe_int (pa_cons (pe_op op_pow pe_int pe_int) pa_nil))))))))) (pss_one (ps_ret (pe_lst (pa_cons pe_str (pa_cons (pv 3) pa_nil)))))
    pss_nil))))
    (pss_cons (ps_for po1 rfl (U.pi_seq (pv 1)) (pg_name (i := 2) sc_law_due.nd rfl (Or.inl rfl))
    (pss_one (ps_if (pt_not (pt_val (U.pe_g G_law_is_between (hr.mono (by omega)) rfl px1 (pa_cons (pv 2) (pa_cons pe_int (pa_cons (pe_op op_pow pe_int pe_int) pa_nil)))))) (pss_one (ps_ret (pe_lst (pa_cons pe_str (pa_cons (pv 2) pa_nil)))))
    pss_nil)))
    (pss_one (ps_ret (pe_lst (pa_cons pe_str (pa_cons pe_non pa_nil))))))))
theorem gives_law_told {X : Cx} (e : Env X.prog X.w X.K X.mg X.base) (cdg : Value) (q : Str) : LamX.GivesTo X ["call", "e"] "_law_told" (defScope s_law_told) (He.ga X.K "_law_told") cdg (defBody s_law_told) "call" q (TT_law_told X.K) := by
  have TK := told_K (K := X.K) e.m_InvalidPlan_InvalidPlan e.m_InvalidNumber_InvalidPlan e.m_InvalidNumber_InvalidNumber e.k_InvalidPlan_JoinError e.k_InvalidPlan_InvalidNumber e.k_InvalidNumber_JoinError e.k_InvalidNumber_InvalidPlace e.fx
  intro f c' s H Q tl act hc h
  refine ⟨_, show PSs (cxOf C8.CX0 X.prog X.w X.K X.mg X.base ["call", "e"] "_law_told" (defScope s_law_told) (He.ga X.K "_law_told") cdg X.A X.stack s H C8.E0).nox _ _ from (pss_cons (Xn.ps_try_mas rfl rfl sc_law_told.nd LamX.takes0 (fun W pn xe tk1 po1 => Xn.withPx (Xn.pxW tk1 rfl) fun px1 => (pss_one (ps_expr (Xn.pe_act2 fun Ech hE => act (fun cls d _ H => Xn.EW 2 W cls d H) pn xe Ech _ _ (Xn.takes_forget rfl tk1) (fun cls d _ H' h => hE cls d H' h)))))
    (.cons (i := 1) rfl rfl ⟨rfl, rfl, .inl e.g_InvalidPlan⟩ (fun a oe cls d pn hz hf => (pss_one (ps_ret (pe_ifExp (PW.pt (pw_and (pt_val (pe_callB (Xn.call_isX hz hf) (by rfl) e.b_isinstance PyProof.Rows.boot_isinstance (pa_cons (pv 1) (pa_cons (Xn.pe_gr rfl e.g_JoinError) pa_nil)))) (pw_and1 (pt_not (pt_val (pe_callB (Xn.call_isX hz hf) (by rfl) e.b_isinstance PyProof.Rows.boot_isinstance (pa_cons (pv 1) (pa_cons (Xn.pe_gr rfl e.g_InvalidNumber) pa_nil)))))))) (pe_lst (pa_cons pe_str (pa_cons (pe_xf e.x_InvalidPlan.xf e.x_InvalidPlan.nf hz hf (pv 1)) pa_nil))) pe_non))))
    (.cons (i := 1) rfl rfl ⟨rfl, rfl, .inl e.g_InvalidNumber⟩ (fun a oe cls d pn hz hf => (pss_one (ps_ret (pe_ifExp (PW.pt (pw_and (pt_val (pe_callB (Xn.call_isX hz hf) (by rfl) e.b_isinstance PyProof.Rows.boot_isinstance (pa_cons (pv 1) (pa_cons (Xn.pe_gr rfl e.g_JoinError) pa_nil)))) (pw_and1 (pt_not (pt_val (pe_callB (Xn.call_isX hz hf) (by rfl) e.b_isinstance PyProof.Rows.boot_isinstance (pa_cons (pv 1) (pa_cons (Xn.pe_gr rfl e.g_InvalidPlace) pa_nil)))))))) (pe_lst (pa_cons pe_str (pa_cons (pe_xf e.x_InvalidNumber.xf e.x_InvalidNumber.nf hz hf (pv 1)) pa_nil))) pe_non))))
    Xn.HasOk.nil)))
    (pss_one (ps_ret (pe_lst (pa_cons pe_str (pa_cons pe_non pa_nil)))))), ?_⟩
  exact TK f c' H Q q tl hc h
theorem ok_is_integer (e : Env P w K mg base) : U.GFn P w K mg base 1 "is_integer" ["value"] (sp_is_integer K) := by
  obtain ⟨fd, F⟩ := e.d_is_integer
  refine ⟨_, fd, F.ok sc_is_integer len_is_integer (fun cdv A outer s H vs Q E hr h => ⟨t_is_integer K E, ?_, rd_is_integer vs H Q E h⟩), e.g_is_integer, F.kp, FunD.bindsN F fun _ _ _ _ _ _ us hl => match us, hl with | [_], _ => rfl⟩
  exact U.body fun px1 po1 => (pss_one (ps_ret (pe_and (pe_callB call_isi (by rfl) e.b_isinstance PyProof.Rows.boot_isinstance (pa_cons (pv 0) (pa_cons (pe_bltn rfl e.b_int PyProof.Rows.boot_int rfl) pa_nil))) (pe_one (pe_not (pe_callB call_isi (by rfl) e.b_isinstance PyProof.Rows.boot_isinstance (pa_cons (pv 0) (pa_cons (pe_bltn rfl e.b_bool PyProof.Rows.boot_bool rfl) pa_nil))))))))
theorem ok_is_between (e : Env P w K mg base) : U.GFn P w K mg base 2 "is_between" ["value", "least", "most"] (sp_is_between K) := by
  have G_is_integer := ok_is_integer e
  obtain ⟨fd, F⟩ := e.d_is_between
  refine ⟨_, fd, F.ok sc_is_between len_is_between (fun cdv A outer s H vs Q E hr h => ⟨t_is_between K E, ?_, rd_is_between vs H Q E h⟩), e.g_is_between, F.kp, FunD.bindsN F fun _ _ _ _ _ _ us hl => match us, hl with | [_, _, _], _ => rfl⟩
  exact U.body fun px1 po1 => (pss_one (ps_ret (pe_and (U.pe_g G_is_integer (hr.mono (by omega)) rfl px1 (pa_cons (pv 0) pa_nil)) (pe_one (pe_chain op_le op_le (pv 1) (pv 0) (pv 2))))))
theorem ok_InvalidNumber_init (e : Env P w K mg base) : Xn.GIni P w K mg base 1 (He.fAd K ("InvalidNumber", some "__init__")) ["self", "value"] "value" := by
  obtain ⟨fd, F⟩ := e.d_InvalidNumber_init
  refine ⟨fd, F.ok sc_InvalidNumber_init Xn.len_init (fun cdv A outer s H vs Q E hr h => ⟨(tSeq (tDrop (tVeI K (tCons (tVar 0) (tCons (tC (.str "invalid number")) tNil))))
    (tOst K "value" (tVar 0) (tVar 1))), ?_, Xn.rd_init vs H Q E h⟩), FunD.bindsN F fun _ _ _ _ _ _ us hl => match us, hl with | [_, _], _ => rfl⟩
  exact U.body fun px1 po1 => (pss_cons (ps_expr (Xn.pe_jinit e.y_JoinError rfl e.g_JoinError (pa_cons (pv 0) (pa_cons pe_str pa_nil))))
    (pss_one (ps_ost (pv 0) (pv 1))))
theorem ok_require_number (e : Env P w K mg base) : U.GFn P w K mg base 3 "require_number" ["value"] (sp_require_number K) := by
  have G_InvalidNumber_init := ok_InvalidNumber_init e
  have G_is_between := ok_is_between e
  obtain ⟨fd, F⟩ := e.d_require_number
  refine ⟨_, fd, F.ok sc_require_number len_require_number (fun cdv A outer s H vs Q E hr h => ⟨t_require_number K E, ?_, rd_require_number e.fx vs H Q E h⟩), e.g_require_number, F.kp, FunD.bindsN F fun _ _ _ _ _ _ us hl => match us, hl with | [_], _ => rfl⟩
  exact Xn.bodyX fun tk1 px1 po1 => (pss_one (ps_if (pt_not (pt_val (U.pe_g G_is_between (hr.mono (by omega)) rfl px1 (pa_cons (pv 0) (pa_cons pe_int (pa_cons (U.pe_gc rfl e.g_MOST) pa_nil)))))) (pss_one (Xn.ps_rz e.x_InvalidNumber G_InvalidNumber_init (hr.mono (by omega)) rfl tk1 rfl e.g_InvalidNumber (pa_cons (pv 0) pa_nil)))
    pss_nil))
theorem ok_InvalidPlan_init (e : Env P w K mg base) : Xn.GIni P w K mg base 1 (He.fAd K ("InvalidPlan", some "__init__")) ["self", "index"] "index" := by
  obtain ⟨fd, F⟩ := e.d_InvalidPlan_init
  refine ⟨fd, F.ok sc_InvalidPlan_init Xn.len_init (fun cdv A outer s H vs Q E hr h => ⟨(tSeq (tDrop (tVeI K (tCons (tVar 0) (tCons (tC (.str "invalid plan")) tNil))))
    (tOst K "index" (tVar 0) (tVar 1))), ?_, Xn.rd_init vs H Q E h⟩), FunD.bindsN F fun _ _ _ _ _ _ us hl => match us, hl with | [_, _], _ => rfl⟩
  exact U.body fun px1 po1 => (pss_cons (ps_expr (Xn.pe_jinit e.y_JoinError rfl e.g_JoinError (pa_cons (pv 0) (pa_cons pe_str pa_nil))))
    (pss_one (ps_ost (pv 0) (pv 1))))
theorem ok_is_row (e : Env P w K mg base) : U.GFn P w K mg base 1 "is_row" ["value"] (sp_is_row K) := by
  obtain ⟨fd, F⟩ := e.d_is_row
  refine ⟨_, fd, F.ok sc_is_row len_is_row (fun cdv A outer s H vs Q E hr h => ⟨t_is_row K E, ?_, rd_is_row vs H Q E h⟩), e.g_is_row, F.kp, FunD.bindsN F fun _ _ _ _ _ _ us hl => match us, hl with | [_], _ => rfl⟩
  exact U.body fun px1 po1 => (pss_one (ps_ret (pe_callB call_isiT (by rfl) e.b_isinstance PyProof.Rows.boot_isinstance (pa_cons (pv 0) (pa_cons (pe_tup (pa_cons (pe_bltn rfl e.b_list PyProof.Rows.boot_list rfl) (pa_cons (pe_bltn rfl e.b_tuple PyProof.Rows.boot_tuple rfl) pa_nil))) pa_nil)))))
theorem ok_require_sizes (e : Env P w K mg base) : U.GFn P w K mg base 3 "require_sizes" ["sizes"] (sp_require_sizes K) := by
  have G_InvalidPlan_init := ok_InvalidPlan_init e
  have G_is_between := ok_is_between e
  have G_is_row := ok_is_row e
  obtain ⟨fd, F⟩ := e.d_require_sizes
  refine ⟨_, fd, F.ok sc_require_sizes len_require_sizes (fun cdv A outer s H vs Q E hr h => ⟨t_require_sizes K E, ?_, rd_require_sizes e.fx vs H Q E h⟩), e.g_require_sizes, F.kp, FunD.bindsN F fun _ _ _ _ _ _ us hl => match us, hl with | [_], _ => rfl⟩
  exact Xn.bodyX fun tk1 px1 po1 => (pss_cons (ps_if (pt_not (pt_val (U.pe_g G_is_row (hr.mono (by omega)) rfl px1 (pa_cons (pv 0) pa_nil)))) (pss_one (Xn.ps_rz e.x_InvalidPlan G_InvalidPlan_init (hr.mono (by omega)) rfl tk1 rfl e.g_InvalidPlan (pa_cons pe_non pa_nil)))
    pss_nil)
    (pss_one (ps_for po1 rfl (U.pi_en (by rfl) e.b_enumerate (pa_cons (pv 0) pa_nil)) (pg_tup rfl (pgs_cons (pg_name (i := 1) sc_require_sizes.nd rfl (Or.inl rfl)) (pgs_cons (pg_name (i := 2) sc_require_sizes.nd rfl (Or.inl rfl)) pgs_nil)))
    (pss_cons (ps_if (PW.pt (pw_or (pt_not (pt_val (pe_callB call_isi (by rfl) e.b_isinstance PyProof.Rows.boot_isinstance (pa_cons (pv 2) (pa_cons (pe_bltn rfl e.b_tuple PyProof.Rows.boot_tuple rfl) pa_nil))))) (pw_or1 (pt_cmpR (U.op_neu hr.units) (pe_callB U.call_ln (by rfl) e.b_len PySem.boot_len (pa_cons (pv 2) pa_nil)) pe_int (nomark _))))) (pss_one (Xn.ps_rz e.x_InvalidPlan G_InvalidPlan_init (hr.mono (by omega)) rfl tk1 rfl e.g_InvalidPlan (pa_cons (pv 1) pa_nil)))
    pss_nil)
    (pss_one (ps_if (PW.pt (pw_or (pt_not (pt_val (U.pe_g G_is_between (hr.mono (by omega)) rfl px1 (pa_cons (pe_ix ix_seq (pv 2) pe_int (fun _ _ => rfl)) (pa_cons pe_int (pa_cons (U.pe_gc rfl e.g_MOST) pa_nil)))))) (pw_or1 (pt_not (pt_val (U.pe_g G_is_between (hr.mono (by omega)) rfl px1 (pa_cons (pe_ix ix_seq (pv 2) pe_int (fun _ _ => rfl)) (pa_cons pe_int (pa_cons (U.pe_gc rfl e.g_MOST) pa_nil))))))))) (pss_one (Xn.ps_rz e.x_InvalidPlan G_InvalidPlan_init (hr.mono (by omega)) rfl tk1 rfl e.g_InvalidPlan (pa_cons (pv 1) pa_nil)))
    pss_nil))))))
theorem ok_padding (e : Env P w K mg base) : U.GFn P w K mg base 4 "padding" ["sizes", "rate", "delay", "store"] (sp_padding K) := by
  have G_require_number := ok_require_number e
  have G_require_sizes := ok_require_sizes e
  obtain ⟨fd, F⟩ := e.d_padding
  refine ⟨_, fd, F.ok sc_padding len_padding (fun cdv A outer s H vs Q E hr h => ⟨t_padding K E, ?_, rd_padding e.fx vs H Q E h⟩), e.g_padding, F.kp, FunD.bindsN F fun _ _ _ _ _ _ us hl => match us, hl with | [_, _, _, _], _ => rfl⟩
  exact U.body fun px1 po1 => (pss_cons (ps_expr (U.pe_g G_require_sizes (hr.mono (by omega)) rfl px1 (pa_cons (pv 0) pa_nil)))
    (pss_cons (ps_for po1 rfl (U.pi_seq (pe_tup (pa_cons (pv 1) (pa_cons (pv 2) (pa_cons (pv 3) pa_nil))))) (pg_name (i := 4) sc_padding.nd rfl (Or.inl rfl))
    (pss_one (ps_expr (U.pe_g G_require_number (hr.mono (by omega)) rfl px1 (pa_cons (pv 4) pa_nil)))))
    (pss_cons (ps_set (i := 5) sc_padding.nd rfl (Or.inl rfl) (pe_lst pa_nil))
    (pss_cons (ps_par3 (i := 6) (j := 7) (l := 8) (by rfl) sc_padding.nd rfl rfl rfl (by decide) (by decide) (by decide) rfl rfl rfl (pa_cons pe_int (pa_cons (pv 2) (pa_cons pe_int pa_nil))) (by rfl))
    (pss_cons (ps_for po1 rfl (U.pi_en (by rfl) e.b_enumerate (pa_cons (pv 0) pa_nil)) (pg_tup rfl (pgs_cons (pg_name (i := 9) sc_padding.nd rfl (Or.inl rfl)) (pgs_cons (pg_tup rfl (pgs_cons (pg_name (i := 12) sc_padding.nd rfl (Or.inl rfl)) (pgs_cons (pg_name (i := 13) sc_padding.nd rfl (Or.inl rfl)) pgs_nil))) pgs_nil)))
    (pss_cons (ps_aug (i := 6) sc_padding.nd rfl (.inl rfl) (pv 12) U.ip_ad)
    (pss_cons (ps_set (i := 10) sc_padding.nd rfl (Or.inl rfl) (pe_op U.op_ad (pv 7) (pe_op U.op_ml (pv 1) (pv 13))))
    (pss_cons (ps_set (i := 11) sc_padding.nd rfl (Or.inl rfl) (pe_ifExp (pt_cmpR op_lt (pe_op U.op_ad (pv 9) pe_int) (pe_callB U.call_ln (by rfl) e.b_len PySem.boot_len (pa_cons (pv 0) pa_nil)) (nomark _)) (pe_callB (call_max2 rfl) (by rfl) e.b_max PyProof.Rows.boot_max (pa_cons pe_int (pa_cons (pe_op op_sub (pe_op op_sub (pv 10) (pv 6)) (pv 3)) pa_nil))) pe_int))
    (pss_cons (ps_aug (i := 6) sc_padding.nd rfl (.inl rfl) (pv 11) U.ip_ad)
    (pss_cons (ps_if (pt_cmpR op_gt (pv 6) (pv 7) (nomark _)) (pss_one (ps_ret (pe_tup (pa_cons (pv 8) (pa_cons (pv 9) pa_nil)))))
    pss_nil)
    (pss_cons (ps_if (pt_cmpR op_gt (pv 11) pe_int (nomark _)) (pss_one (ps_set (i := 8) sc_padding.nd rfl (Or.inl rfl) (pe_op U.op_ad (pv 9) pe_int)))
    pss_nil)
    (pss_cons (ps_expr (pe_bm PySem.F.plainAttrs_list PySem.F.slot_list_append PySem.F.type_list_append mt_append (pv 5) (pa_cons (pv 11) pa_nil)))
    (pss_one (ps_set (i := 7) sc_padding.nd rfl (Or.inl rfl) (pv 10)))))))))))
    (pss_one (ps_ret (pv 5))))))))
theorem ok_least_delay (e : Env P w K mg base) : U.GFn P w K mg base 4 "least_delay" ["sizes", "rate"] (sp_least_delay K) := by
  have G_require_number := ok_require_number e
  have G_require_sizes := ok_require_sizes e
  obtain ⟨fd, F⟩ := e.d_least_delay
  refine ⟨_, fd, F.ok sc_least_delay len_least_delay (fun cdv A outer s H vs Q E hr h => ⟨t_least_delay K E, ?_, rd_least_delay e.fx vs H Q E h⟩), e.g_least_delay, F.kp, FunD.bindsN F fun _ _ _ _ _ _ us hl => match us, hl with | [_, _], _ => rfl⟩
  exact U.body fun px1 po1 => (pss_cons (ps_expr (U.pe_g G_require_sizes (hr.mono (by omega)) rfl px1 (pa_cons (pv 0) pa_nil)))
    (pss_cons (ps_expr (U.pe_g G_require_number (hr.mono (by omega)) rfl px1 (pa_cons (pv 1) pa_nil)))
    (pss_cons (ps_asg (pe_tup (pa_cons pe_int (pa_cons pe_int (pa_cons pe_int pa_nil)))) (pg_tup rfl (pgs_cons (pg_name (i := 2) sc_least_delay.nd rfl (Or.inl rfl)) (pgs_cons (pg_name (i := 3) sc_least_delay.nd rfl (Or.inl rfl)) (pgs_cons (pg_name (i := 4) sc_least_delay.nd rfl (Or.inl rfl)) pgs_nil)))))
    (pss_cons (ps_for po1 rfl (U.pi_seq (pv 0)) (pg_tup rfl (pgs_cons (pg_name (i := 5) sc_least_delay.nd rfl (Or.inl rfl)) (pgs_cons (pg_name (i := 6) sc_least_delay.nd rfl (Or.inl rfl)) pgs_nil)))
    (pss_cons (ps_aug (i := 3) sc_least_delay.nd rfl (.inl rfl) (pv 5) U.ip_ad)
    (pss_cons (ps_set (i := 2) sc_least_delay.nd rfl (Or.inl rfl) (pe_callB (call_max2 rfl) (by rfl) e.b_max PyProof.Rows.boot_max (pa_cons (pv 2) (pa_cons (pe_op op_sub (pv 3) (pv 4)) pa_nil))))
    (pss_one (ps_aug (i := 4) sc_least_delay.nd rfl (.inl rfl) (pe_op U.op_ml (pv 1) (pv 6)) U.ip_ad)))))
    (pss_one (ps_ret (pv 2)))))))
theorem ok_law_take (e : Env P w K mg base) : U.GFn P w K mg base 1 "_law_take" ["pool", "many"] (sp_law_take K) := by
  obtain ⟨fd, F⟩ := e.d_law_take
  refine ⟨_, fd, F.ok sc_law_take len_law_take (fun cdv A outer s H vs Q E hr h => ⟨t_law_take K E, ?_, rd_law_take vs H Q E h⟩), e.g_law_take, F.kp, FunD.bindsN F fun _ _ _ _ _ _ us hl => match us, hl with | [_, _], _ => rfl⟩
  exact U.body fun px1 po1 => (pss_cons (ps_if (pt_cmpR op_gt (pe_ix ix_seq (pv 0) pe_int (fun _ _ => rfl)) pe_int (nomark _)) (pss_cons (ps_set (i := 2) sc_law_take.nd rfl (Or.inl rfl) (pe_op op_mod (pe_callTy U.call_in (by rfl) e.b_int PyProof.Rows.boot_int (pa_cons (pe_ix ix_seq (pv 0) pe_int (fun _ _ => rfl)) pa_nil)) (pv 1)))
    (pss_cons (ps_asg (pe_op op_fdivW (pe_callTy U.call_in (by rfl) e.b_int PyProof.Rows.boot_int (pa_cons (pe_ix ix_seq (pv 0) pe_int (fun _ _ => rfl)) pa_nil)) (pv 1)) (pg_sub (pv 0) pe_int set_list))
    (pss_one (ps_ret (pv 2)))))
    pss_nil)
    (pss_cons (ps_asg (pe_op op_mod (pe_callTy U.call_in (by rfl) e.b_int PyProof.Rows.boot_int (pa_cons (pe_op U.op_ad (pe_op U.op_ml (pe_ix ix_seq (pv 0) pe_int (fun _ _ => rfl)) pe_int) pe_int) pa_nil)) pe_int) (pg_sub (pv 0) pe_int set_list))
    (pss_one (ps_ret (pe_op op_mod (pe_op op_fdivW (pe_op op_mod (pe_callTy U.call_in (by rfl) e.b_int PyProof.Rows.boot_int (pa_cons (pe_op U.op_ml (pe_ix ix_seq (pv 0) pe_int (fun _ _ => rfl)) (pe_ix ix_seq (pv 0) pe_int (fun _ _ => rfl))) pa_nil)) pe_int) pe_int) (pv 1))))))
theorem ok_law_given (e : Env P w K mg base) : U.GFn P w K mg base 2 "_law_given" ["pool"] (sp_law_given K) := by
  have G_law_take := ok_law_take e
  obtain ⟨fd, F⟩ := e.d_law_given
  refine ⟨_, fd, F.ok sc_law_given len_law_given (fun cdv A outer s H vs Q E hr h => ⟨t_law_given K E, ?_, rd_law_given vs H Q E h⟩), e.g_law_given, F.kp, FunD.bindsN F fun _ _ _ _ _ _ us hl => match us, hl with | [_], _ => rfl⟩
  exact U.body fun px1 po1 => (pss_cons (ps_set (i := 1) sc_law_given.nd rfl (Or.inl rfl) (pe_lst pa_nil))
    (pss_cons (ps_for po1 rfl (pi_range1 (by rfl) e.b_range (pa_cons (U.pe_g G_law_take (hr.mono (by omega)) rfl px1 (pa_cons (pv 0) (pa_cons pe_int pa_nil))) pa_nil)) (pg_name (i := 2) sc_law_given.nd rfl (Or.inl rfl))
    (pss_cons (ps_par (i := 5) (j := 6) (by rfl) sc_law_given.nd rfl rfl (by decide) rfl rfl (pa_cons (U.pe_g G_law_take (hr.mono (by omega)) rfl px1 (pa_cons (pv 0) (pa_cons pe_int pa_nil))) (pa_cons (pe_op U.op_ad pe_int (U.pe_g G_law_take (hr.mono (by omega)) rfl px1 (pa_cons (pv 0) (pa_cons pe_int pa_nil)))) pa_nil)) (by rfl))
    (pss_cons (ps_set (i := 3) sc_law_given.nd rfl (Or.inl rfl) (pe_lst (pa_cons (pe_tup (pa_cons (pv 5) pa_nil)) (pa_cons (pe_lst (pa_cons (pv 5) (pa_cons (pv 6) pa_nil))) (pa_cons (pe_tup (pa_cons (pv 5) (pa_cons pe_int pa_nil))) (pa_cons (pe_tup (pa_cons (pe_un un_neg pe_int) (pa_cons (pv 6) pa_nil))) (pa_cons (pe_tup (pa_cons (pe_op U.op_ad (pe_op op_pow pe_int pe_int) pe_int) (pa_cons (pv 6) pa_nil))) (pa_cons (pe_tup (pa_cons (pv 5) (pa_cons (pe_op U.op_ad (pe_op op_pow pe_int pe_int) pe_int) pa_nil))) (pa_cons (pe_tup (pa_cons pe_bl (pa_cons (pv 6) pa_nil))) pa_nil)))))))))
    (pss_cons (ps_set (i := 3) sc_law_given.nd rfl (Or.inl rfl) (pe_op U.op_ad (pv 3) (pe_lst (pa_cons (pe_tup (pa_cons (pv 5) (pa_cons pe_bl pa_nil))) (pa_cons (pe_tup (pa_cons (pv 5) (pa_cons pe_non pa_nil))) (pa_cons pe_non (pa_cons pe_int (pa_cons (pe_tup (pa_cons (pv 5) (pa_cons (pv 6) (pa_cons pe_int pa_nil)))) (pa_cons (pe_tup (pa_cons pe_str (pa_cons (pv 6) pa_nil))) (pa_cons (pe_tup pa_nil) pa_nil))))))))))
    (pss_cons (ps_set (i := 4) sc_law_given.nd rfl (Or.inl rfl) (pe_ix ix_seq (pv 3) (U.pe_g G_law_take (hr.mono (by omega)) rfl px1 (pa_cons (pv 0) (pa_cons pe_int pa_nil))) (fun _ _ => rfl)))
    (pss_one (ps_expr (pe_bm PySem.F.plainAttrs_list PySem.F.slot_list_append PySem.F.type_list_append mt_append (pv 1) (pa_cons (pe_ix ix_seq (pe_lst (pa_cons (pe_tup (pa_cons (pv 5) (pa_cons (pv 6) pa_nil))) (pa_cons (pv 4) pa_nil))) (pe_callTy U.call_in (by rfl) e.b_int PyProof.Rows.boot_int (pa_cons (pe_cmpR (U.op_equ hr.units) (U.pe_g G_law_take (hr.mono (by omega)) rfl px1 (pa_cons (pv 0) (pa_cons pe_int pa_nil))) pe_int (nomark _)) pa_nil)) (fun _ _ => rfl)) pa_nil)))))))))
    (pss_cons (ps_if (pt_cmpR (U.op_equ hr.units) (U.pe_g G_law_take (hr.mono (by omega)) rfl px1 (pa_cons (pv 0) (pa_cons pe_int pa_nil))) pe_int (nomark _)) (pss_one (ps_ret (pe_ix ix_seq (pe_lst (pa_cons pe_non (pa_cons pe_int (pa_cons pe_str (pa_cons pe_bl (pa_cons pe_str pa_nil)))))) (U.pe_g G_law_take (hr.mono (by omega)) rfl px1 (pa_cons (pv 0) (pa_cons pe_int pa_nil))) (fun _ _ => rfl))))
    pss_nil)
    (pss_one (ps_ret (pe_ifExp (pt_cmpR (U.op_equ hr.units) (U.pe_g G_law_take (hr.mono (by omega)) rfl px1 (pa_cons (pv 0) (pa_cons pe_int pa_nil))) pe_int (nomark _)) (pe_callTy call_tuple_of (by rfl) e.b_tuple PyProof.Rows.boot_tuple (pa_cons (pv 1) pa_nil)) (pv 1)))))))
theorem ok_law_pool (e : Env P w K mg base) : U.GFn P w K mg base 1 "_law_pool" ["script", "k"] (sp_law_pool K) := by
  obtain ⟨fd, F⟩ := e.d_law_pool
  refine ⟨_, fd, F.ok sc_law_pool len_law_pool (fun cdv A outer s H vs Q E hr h => ⟨t_law_pool K E, ?_, rd_law_pool vs H Q E h⟩), e.g_law_pool, F.kp, FunD.bindsN F fun _ _ _ _ _ _ us hl => match us, hl with | [_, _], _ => rfl⟩
  exact U.body fun px1 po1 => (pss_cons (ps_set (i := 2) sc_law_pool.nd rfl (Or.inl rfl) pe_int)
    (pss_cons (ps_if (pt_cmpR op_lt (pv 1) (pe_callB U.call_ln (by rfl) e.b_len PySem.boot_len (pa_cons (pv 0) pa_nil)) (nomark _)) (pss_one (ps_set (i := 2) sc_law_pool.nd rfl (Or.inl rfl) (pe_callTy U.call_in (by rfl) e.b_int PyProof.Rows.boot_int (pa_cons (pe_ix ix_seq (pv 0) (pv 1) (fun _ _ => rfl)) pa_nil))))
    pss_nil)
    (pss_cons (ps_set (i := 3) sc_law_pool.nd rfl (Or.inl rfl) (pe_callB call_abs (by rfl) e.b_abs PyProof.Rows.boot_abs (pa_cons (pv 2) pa_nil)))
    (pss_cons (ps_set (i := 4) sc_law_pool.nd rfl (Or.inl rfl) (pe_op U.op_ad (pe_op U.op_ad (pe_op op_mod (pe_callTy U.call_in (by rfl) e.b_int PyProof.Rows.boot_int (pa_cons (pv 2) pa_nil)) pe_int) (pe_op U.op_ml pe_int (pv 1))) pe_int))
    (pss_one (ps_ret (pe_lst (pa_cons (pe_op U.op_ml (pv 3) (pe_callTy U.call_in (by rfl) e.b_int PyProof.Rows.boot_int (pa_cons (pe_cmpR op_ge (pv 3) (pe_op op_pow pe_int pe_int) (nomark _)) pa_nil))) (pa_cons (pe_op op_mod (pe_callTy U.call_in (by rfl) e.b_int PyProof.Rows.boot_int (pa_cons (pe_op U.op_ad (pe_op U.op_ml (pe_op U.op_ml (pv 4) (pv 4)) (pv 4)) (pe_op U.op_ml pe_int (pv 1))) pa_nil)) pe_int) pa_nil)))))))))
theorem okF_law (e : Env P w K mg base) (TB : LamX.TabB base mg (He.codeOf K ("law", none)) (He.tabOf K (He.codeOf K ("law", none)))) {fd : FuncData} (F : FunD K "law" "law" (defArgs s_law) (defBody s_law) (defScope s_law) [] [] (He.fAd K ("law", none)) fd) : FnOk P w K mg base (L2.CX P w) 7 (He.fAd K ("law", none)) fd ["script"] (sp_law K) := by
  have G_law_due := ok_law_due e
  have G_law_given := ok_law_given e
  have G_law_pool := ok_law_pool e
  have G_law_same := ok_law_same e 3
  have G_law_take := ok_law_take e
  have G_least_delay := ok_least_delay e
  have G_padding := ok_padding e
  obtain ⟨fd_law_told, F_law_told⟩ := e.d_law_told
  have b_law_told : Binds K fd_law_told ["call"] [] := FunD.bindsN F_law_told fun _ _ _ _ _ _ us hl => match us, hl with | [_], _ => rfl
  refine Xn.okC F sc_law len_law (fun A outer s H vs Q E hr h => ⟨t_law K E, ?_, rd_law vs H Q E h⟩)
  exact U.body fun px1 po1 => (pss_cons (ps_for po1 rfl (pi_range1 (by rfl) e.b_range (pa_cons (pe_callB (call_max2 rfl) (by rfl) e.b_max PyProof.Rows.boot_max (pa_cons pe_int (pa_cons (pe_callB (call_min2 rfl) (by rfl) e.b_min PyProof.Rows.boot_min (pa_cons (pe_callB U.call_ln (by rfl) e.b_len PySem.boot_len (pa_cons (pv 0) pa_nil)) (pa_cons pe_int pa_nil))) pa_nil))) pa_nil)) (pg_name (i := 1) sc_law.nd rfl (Or.inl rfl))
    (pss_cons (ps_set (i := 2) sc_law.nd rfl (Or.inl rfl) (U.pe_g G_law_pool (hr.mono (by omega)) rfl px1 (pa_cons (pv 0) (pa_cons (pv 1) pa_nil))))
    (pss_cons (ps_asg (pe_tup (pa_cons (U.pe_g G_law_given (hr.mono (by omega)) rfl px1 (pa_cons (pv 2) pa_nil)) (pa_cons (pe_lst pa_nil) pa_nil))) (pg_tup rfl (pgs_cons (pg_name (i := 4) sc_law.nd rfl (Or.inr rfl)) (pgs_cons (pg_name (i := 5) sc_law.nd rfl (Or.inl rfl)) pgs_nil))))
    (pss_cons (ps_for po1 rfl (pi_range1 (by rfl) e.b_range (pa_cons pe_int pa_nil)) (pg_name (i := 3) sc_law.nd rfl (Or.inl rfl))
    (pss_cons (ps_set (i := 6) sc_law.nd rfl (Or.inl rfl) (pe_ix ix_seq (pe_lst (pa_cons pe_non (pa_cons pe_bl (pa_cons pe_bl (pa_cons pe_str (pa_cons (pe_un un_neg pe_int) (pa_cons (pe_op U.op_ad (pe_op op_pow pe_int pe_int) pe_int) (pa_cons (pe_op op_pow pe_int pe_int) (pa_cons (pe_tup (pa_cons pe_int pa_nil)) (pa_cons (pe_lst (pa_cons pe_int pa_nil)) (pa_cons pe_str pa_nil))))))))))) (U.pe_g G_law_take (hr.mono (by omega)) rfl px1 (pa_cons (pv 2) (pa_cons pe_int pa_nil))) (fun _ _ => rfl)))
    (pss_one (ps_expr (pe_bm PySem.F.plainAttrs_list PySem.F.slot_list_append PySem.F.type_list_append mt_append (pv 5) (pa_cons (pe_ix ix_seq (pe_lst (pa_cons (U.pe_g G_law_take (hr.mono (by omega)) rfl px1 (pa_cons (pv 2) (pa_cons (pe_op op_pow pe_int pe_int) pa_nil))) (pa_cons pe_int (pa_cons (pe_op op_pow pe_int pe_int) (pa_cons (pv 6) pa_nil))))) (U.pe_g G_law_take (hr.mono (by omega)) rfl px1 (pa_cons (pv 2) (pa_cons pe_int pa_nil))) (fun _ _ => rfl)) pa_nil))))))
    (pss_cons (ps_asg (pv 5) (U.pg_un rfl (pgs_cons (pg_name (i := 7) sc_law.nd rfl (Or.inr rfl)) (pgs_cons (pg_name (i := 8) sc_law.nd rfl (Or.inr rfl)) (pgs_cons (pg_name (i := 9) sc_law.nd rfl (Or.inr rfl)) pgs_nil)))))
    (pss_cons (ps_if (pt_not (pt_val (U.pe_g G_law_same (hr.mono (by omega)) rfl px1 (pa_cons (Xn.pe_lam (k := 4) F_law_told rfl e.g_law_told b_law_told sc_law_told rfl (.inl rfl) (fun cdg => gives_law_told e cdg _) TB rfl (List.mem_singleton.mpr rfl) (fun p hp _ => by rw [List.mem_singleton.mp hp]; rfl) (hr.mono (by omega)) (LamX.lamS_by (by rfl)) rfl (fun _ _ _ _ _ => rfl)
      (fun A outer s H E f c' hr => Xn.withPx (U.px (E := E) rfl rfl rfl rfl) fun px1 => (U.pe_g G_least_delay (hr.mono (by omega)) rfl px1 (pa_cons (pv 4) (pa_cons (pv 7) pa_nil))))) (pa_cons (U.pe_g G_law_due (hr.mono (by omega)) rfl px1 (pa_cons (pv 4) (pa_cons (pe_lst (pa_cons (pv 7) pa_nil)) pa_nil))) pa_nil))))) (pss_one (ps_ret pe_bl))
    pss_nil)
    (pss_one (ps_if (pt_not (pt_val (U.pe_g G_law_same (hr.mono (by omega)) rfl px1 (pa_cons (Xn.pe_lam (k := 4) F_law_told rfl e.g_law_told b_law_told sc_law_told rfl (.inl rfl) (fun cdg => gives_law_told e cdg _) TB rfl (List.mem_singleton.mpr rfl) (fun p hp _ => by rw [List.mem_singleton.mp hp]; rfl) (hr.mono (by omega)) (LamX.lamS_by (by rfl)) rfl (fun _ _ _ _ _ => rfl)
      (fun A outer s H E f c' hr => Xn.withPx (U.px (E := E) rfl rfl rfl rfl) fun px1 => (U.pe_g G_padding (hr.mono (by omega)) rfl px1 (pa_cons (pv 4) (pa_cons (pv 7) (pa_cons (pv 8) (pa_cons (pv 9) pa_nil))))))) (pa_cons (U.pe_g G_law_due (hr.mono (by omega)) rfl px1 (pa_cons (pv 4) (pa_cons (pv 5) pa_nil))) pa_nil))))) (pss_one (ps_ret pe_bl))
    pss_nil))))))))
    (pss_one (ps_ret pe_bl)))
theorem facts {l : PySem.W.OpenLaw} {w : World} {K : PySem.W.Frag} {h : Heap} {mg : Str → Option Value} {f : Addr} (X : K.In h) (G : h.Ns mainGlobals mg) (hfa : mg ("law" : Str) = some (.ref f)) (c : He.SaysX fa fn [] tf ex w h K) :
    LamX.LawAtS l w K (L2.CX l.prog w) 7 63 "script" mg f h := by
  have e0 : Env l.prog w K mg h := ⟨⟨h, X, G⟩, c.t.d, c.more⟩
  obtain ⟨fd, F⟩ := e0.d_law
  have e := hfa.symm.trans e0.g_law
  cases e
  have b := FunD.bindsA (ps := ["script"]) F fun _ _ _ _ _ _ us hl => match us, hl with | [_], _ => rfl
  have mem : (("law", none) : He.Defn) ∈ tf := List.mem_singleton.mpr rfl
  refine ⟨fd, [He.cT K ("law", none)], sp_law K, ?_, ?_, ?_, fun s v => b s [v] rfl, ?_, ?_⟩
  · intro p hp; rw [List.mem_singleton.mp hp]; exact c.empty _ mem
  · intro p hp; rw [List.mem_singleton.mp hp]; exact c.out _ mem
  · intro p hp; rw [List.mem_singleton.mp hp]; exact PySem.W.codeHd_of_K X (c.hd _ mem)
  · intro H a ns hl _ ht hS
    exact law_end hS hl (ht _ (List.mem_singleton.mpr rfl))
  · intro base _ _ TB
    have e1 : Env l.prog w K mg base := ⟨⟨h, X, G⟩, c.t.d, c.more⟩
    exact okF_law e1 (TB _ (List.mem_singleton.mpr rfl)) F
end
end Pf
open PySem PySem.W PySem.Calls PyProof.Rows
theorem PySem.Challenge.cw_framejoins_k81_budgets_refused_holds : PySem.Challenge.rw_framejoins_k81_budgets_refused.Holds := by
  w_on; o_law
  refine HandSHeadRun.head_any (r := OpenLaw.row PySem.Challenge.rw_framejoins_k81_budgets_refused) (q := view (OpenLaw.row PySem.Challenge.rw_framejoins_k81_budgets_refused).prog [23]) (H := Pf.hk) (ob := Pf.ob) (M := 4000) (loose := ["JoinError", "InvalidNumber", "InvalidPlan", "InvalidPlace", "is_integer", "is_between", "is_row", "MOST", "require_number", "require_sizes", "least_delay", "padding", "_law_pool", "_law_take", "_law_same", "_law_is_between", "_law_due", "_law_told", "_law_given"]) (d := HandSHeadRun.topDef (OpenLaw.row PySem.Challenge.rw_framejoins_k81_budgets_refused).prog 23) (kwd := []) Pf.ob_eq
    (by kernel_rfl) (fun s => by kernel_rfl) Pf.run (by kernel_rfl) (by kernel_rfl) (by kernel_rfl) (by rfl) (by first | assumption | decide +kernel) (by decide +kernel) ⟨rfl, rfl, rfl, rfl, rfl, by decide +kernel⟩ ?hw ?hc
  case hw => w_witness2
  case hc =>
    refine LamX.walk_ofTsE (l := PySem.Challenge.rw_framejoins_k81_budgets_refused) (n := 63) (k := 7) (x := "script") (CX := fun w => L2.CX PySem.Challenge.rw_framejoins_k81_budgets_refused.prog w) rfl (by decide) (by kernel_rfl) ⟨rfl, by decide, by decide⟩ ?F (fun _ => U.cx_no)
    intro w mg fa h Y G hmg0
    obtain ⟨K, KX, c⟩ := Y
    have hmg : mg ("law" : PySem.Str) = some (.ref fa) := by
      have e : (HandSHeadRun.topDef (OpenLaw.row PySem.Challenge.rw_framejoins_k81_budgets_refused).prog 23).name = ("law" : PySem.Str) := by kernel_rfl
      rw [← e]
      exact hmg0
    exact ⟨K, KX, Pf.facts KX G hmg c⟩
