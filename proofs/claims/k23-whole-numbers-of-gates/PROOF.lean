import PyProof.Rows.All
import Wide.All
import OpenK.AllK
import Wide.FinOn
import HandS.ForMost
import HandS.More
import HandS.Slots
import HandS.SlotsOwn
import HandS.IsInst
import HandS.Style
import HandS.FStr
import HandS.Wide
import HandS.Zip
import HandS.Conv
import HandS.Evl
import HandS.Codes
import HandS.Walk
import PyProof.EnumMake
import PyProof.RulesMatch
import KE.GoesEnum
import KE.GoesMore
import KE.KDictZip
import KE.KCallOwn
import KE.KItemsList
import HandS.ListItems
import PySem.Challenge.RW_evencoins_k23_whole_numbers_of_gates
set_option Elab.async false
set_option linter.all false
set_option maxRecDepth 100000
set_option maxHeartbeats 2000000
/-! rules that the hand layer lacks: match, enumerate of a tuple -/
namespace Ec
open PySem PySem.Spec PyProof.Rows L2

/-! ### match over texts -/
/-- the cases, by the subject's value -/
abbrev TM := V → Ends → L2.St → Hp → Prop
structure PM (X : Cx) (cs : List MatchCase) (t : TM) : Prop where
  run : ∀ (pins : List (Addr × Obj)) (s : Shared) (σ : L2.St) (H : Hp) (D : Ends) (v : V) (u : Value) (first : Bool), Inv X pins σ H s → RelV v u → t v D σ H →
    wpAny (model X.prog X.w) X.A (matchCases cs X.env u first) (SP X pins D) X.xe s
section
variable {X : Cx}
def mNil : TM := fun _ D σ H => D.nx σ H
def mStr (z : Str) (tb : TS) (tr : TM) : TM := fun v D σ H => ∃ y, v = .str y ∧ if decide (y = z) = true then tb D σ H else tr v D σ H
def mAny (tb : TS) : TM := fun _ D σ H => tb D σ H
theorem pm_nil : PM X [] mNil := ⟨fun _ _ σ H _ _ _ _ I _ h => wpAny_matchCases_nil ⟨σ, H, I, h⟩⟩
theorem pm_str {z : Str} {j : Nat} {p1 p2 : Pos} {body : List Stmt} {rest : List MatchCase} {tb : TS} {tr : TM} (hb : PSs X body tb) (hr : PM X rest tr) :
    PM X (⟨.MatchValue (.Constant (.str z) j p1) p2, none, body⟩ :: rest) (mStr z tb tr) := by
  refine ⟨fun pins s σ H D v u first I r h => ?_⟩
  obtain ⟨y, rfl, h⟩ := h
  obtain ⟨t, rfl⟩ := r
  refine wpAny_matchCases_cons (wpAny_matchPattern_Value (thn ((pe_str (X := X) (x := z) (j := j) (pos := p1)).run pins s σ H (fun v' H' => v' = .str z ∧ H' = H) I ⟨rfl, rfl⟩) fun w s1 ⟨x, H1, I1, r1, e1, e2⟩ => ?_))
  subst e1 e2
  refine thn (op_eq (X := X) pins s1 σ H1 (.str y) (.str z) _ _ (fun v' H' => v' = .bl (decide (y = z)) ∧ H' = H1) I1 ⟨t, rfl⟩ r1 ⟨rfl, ?_, rfl⟩) fun c s2 ⟨x, H2, I2, r2, e3, e4⟩ => ?_
  · congr 1
    by_cases e : y = z
    · rw [decide_eq_true e, decide_eq_true (by rw [e])]
    · rw [decide_eq_false e, decide_eq_false (fun q => e (V.str.inj q))]
  subst e3 e4
  cases (show c = Value.bool (decide (y = z)) from r2)
  refine wpAny_truthy_bool ?_
  cases hd : decide (y = z) with
  | true =>
    rw [hd] at h
    refine wpAny_assignInOrder_none ?_
    exact hb.run pins s2 σ H2 D I2 h
  | false =>
    rw [hd] at h
    exact hr.run pins s2 σ H2 D (.str y) _ false I2 ⟨t, rfl⟩ h
theorem pm_any {p : Pos} {body : List Stmt} {rest : List MatchCase} {tb : TS} (hb : PSs X body tb) : PM X (⟨.MatchAs none none p, none, body⟩ :: rest) (mAny tb) := by
  refine ⟨fun pins s σ H D v u first I r h => ?_⟩
  refine wpAny_matchCases_cons (wpAny_matchPattern_Capture ?_)
  exact wpAny_assignInOrder_none (hb.run pins s σ H D I h)
def tMatch (te : TE) (t : TM) : TS := fun D σ H => te σ H fun v H1 => t v D σ H1
theorem ps_match {e : Expr} {cs : List MatchCase} {pos : Pos} {te : TE} {t : TM} (he : PE X e te) (hc : PM X cs t) : PS X (.Match e cs pos) (tMatch te t) := by
  refine ⟨fun pins s σ H D I h => ?_⟩
  exact wpAny_Match (thn (he.run pins s σ H _ I h) fun u s1 ⟨v, H1, I1, r1, q1⟩ => hc.run pins s1 σ H1 D v u true I1 r1 q1)
end

/-! ### enumerate(tuple) -/
/-- the tuple at a as it stands at each turn, each item in a new pair -/
def IteT (K : PySem.W.Frag) (a : Addr) : It :=
  ⟨fun i H => ∃ (xs : List V) (x : V), SqT K H a xs ∧ xs[i]? = some x, fun i H v H' => ∃ T x, v = .ref T ∧ H T = none ∧ H' = upd H T (.tup [.int (i : Nat), x]) ∧ ∀ xs, SqT K H a xs → xs[i]? = some x, fun i H => ∃ xs : List V, SqT K H a xs ∧ xs.length ≤ i⟩
theorem turn_enumT {P : Program} {w : World} {K : PySem.W.Frag} {elts : List Expr} {kk : Nat} {tpos : Pos} (a e it : Addr) (hae : a ≠ it) (hae2 : a ≠ e) :
    Turn P w K (.Tuple elts kk tpos) (IteT K a) [e, it] e (fun i h => (∃ old, IsEnum h e it ((i : Nat) : Int) old) ∧ h.IsTupleIter it a i ∧ e ≠ it) where
  mem := by simp
  obj := fun i h st b hb => by
    obtain ⟨⟨old, he⟩, ⟨o, ho, hc, hd⟩, _⟩ := st
    have e' : b = e ∨ b = it := by simpa using hb
    rcases e' with z | z
    · rw [z]; exact ⟨_, he, fun v q => nomatch q⟩
    · rw [z]; exact ⟨o, ho, fun v q => by rw [hd] at q; cases q⟩
  keep := fun i h h' st k => let ⟨⟨old, he⟩, hi, hne⟩ := st; ⟨⟨old, k e (by simp) _ he⟩, hi.at fun o q => k it (by simp) o q, hne⟩
  item := by
    intro X hP hw hK hc i pins s σ H E I hf st hg
    subst hP hw hK
    obtain ⟨⟨old, he⟩, hit, hne⟩ := st
    obtain ⟨xs, x, hq, hx⟩ := hg
    obtain ⟨its, rv, p, hz⟩ := I.tuple hq
    obtain ⟨u, hu, ru⟩ := rv.get hx
    have hel : e < s.heap.objs.size := Heap.lt_size he
    have hil : it < s.heap.objs.size := by obtain ⟨_, q, _⟩ := hit; exact Heap.lt_size q
    have hlt : i < its.toArray.size := by
      have := (List.getElem?_eq_some_iff.mp hu).1
      simpa using this
    have D := Draws.tuple (prog := X.prog) (w := X.w) (A := X.A.in1) (show X.A.in1.handled = none from I.ok.hd hc) it a hae its.toArray
    refine wpAny_pyNext_enum_itemC (D := D) he ⟨hit, (show s.heap.IsTuple a its.toArray from p)⟩ hlt hne (by simp [hne, Ne.symm hae2]) fun y h' tk hy ho hit' hT hsz hk => ?_
    have hyu : y = u := by
      have q : its.toArray[i]? = some u := by simpa using hu
      rw [q] at hy
      exact (Option.some.inj hy).symm
    subst hyu
    refine ⟨_, rfl, wpAny_letOwnedTupleGo_enum (s := { s with heap := h', toks := tk + 1 }) ho fun h'' he' sb => ?_⟩
    have hT2 : h''.get? s.heap.objs.size = some { cls := .type "tuple", data := .seq #[.int ((i : Nat) : Int) tk, y] } := (sb.2 _ (Nat.ne_of_gt hel)).trans hT
    have new : ObjOk X.prog X.w (upd H s.heap.objs.size (.tup [.int (i : Nat), x])) h'' s.heap.objs.size (.tup [.int (i : Nat), x]) :=
      ⟨by show 2 ≤ sizeLine; decide, [.int ((i : Nat) : Int) tk, y], .cons ⟨_, rfl⟩ (.cons ru .nil), ⟨_, hT2, rfl, _, rfl⟩⟩
    have I1 : Inv X pins σ (upd H s.heap.objs.size (.tup [.int (i : Nat), x])) { s with heap := h'', toks := tk + 1 } :=
      I.turnedNew (ch := [e, it]) (fun b ob hb q => (sb.2 b (fun z => hb (by simp [z]))).trans (hk b ob (fun z => hb (by simp [z])) (fun z => hb (by simp [z])) q)) hf (Nat.le_refl _) new
    refine ⟨.ref s.heap.objs.size, _, I1, rfl, ⟨_, x, rfl, I.hok.fresh (Nat.le_refl _), rfl, fun ys hy => by rw [I.tuple_inj hy hq]; exact hx⟩, ⟨⟨y, ?_⟩, hit'.1.at fun o q => (sb.2 it (Ne.symm hne)).trans q, hne⟩, fun b hb => ?_⟩
    · have e1 : ((i + 1 : Nat) : Int) = (i : Int) + 1 := by omega
      rw [e1]; exact he'
    · have hb' : b < s.heap.objs.size := by
        have e' : b = e ∨ b = it := by simpa using hb
        rcases e' with z | z
        · rw [z]; exact hel
        · rw [z]; exact hil
      rw [upd_ne (Nat.ne_of_lt hb')]
      exact (hf b hb).1
  done := by
    intro X hP hw hK hc i pins s σ H E I hf st hg
    subst hP hw hK
    obtain ⟨⟨old, he⟩, hit, hne⟩ := st
    obtain ⟨xs, hq, hx⟩ := hg
    obtain ⟨its, rv, p, hz⟩ := I.tuple hq
    obtain ⟨f0, f1, f2, f3, f4, f5⟩ := hf it (by simp)
    have hl := rv.length
    have hT : s.TypeIs (.ref e) "enumerate" := ⟨_, he, rfl⟩
    unfold pyNext
    refine wpAny_bind (wpAny_attempt (wpAny_callSpecial?_slot (name := Str.ofString "__next__") hT F.slot_enumerate_next
      (wpAny_call_entry F.slot_enumerate_next hT F.entry_enumerate_next ?_ (F.args_enumerate_next_1 _))))
    show wpAny _ _ (field (.ref e) 2 >>= _) _ _ _
    refine wpAny_bind (wpAny_field he rfl (x := .ref it) rfl ?_)
    refine wpAny_bind (wpAny_nextOf_tuple_end (show X.A.in1.handled = none from I.ok.hd hc) hit (show s.heap.IsTuple a its.toArray from p) (by simp; omega) fun h' x he' hx' => ?_)
    obtain ⟨o, ho, hc'⟩ := hx'
    refine wpAny_bind (wpAny_isInstance (T := "StopIteration") (b := true) ⟨o, ho, hc'⟩ isSubtype_stop ?_)
    exact wpAny_pure ⟨rfl, I.turned (t' := s.toks) (fun b o hb q => he' b o hb q) f0 f1 f3 f4 f5⟩
  self := fun A i s Q E st h => let ⟨⟨_, he⟩, _⟩ := st; wpAny_pyIter_enum he h
def iEnumT (K : PySem.W.Frag) (ta : TA) : TI := fun σ H R => ta σ H fun vs H1 => ∃ a xs, vs = [.ref a] ∧ SqT K H1 a xs ∧ R (IteT K a) H1
theorem meets_enumerate_newT (l : Addr) (items : Array Value) :
    Meets (Builtin.«enumerate.__new__» ⟨[.type "enumerate", .ref l], []⟩) (fun _ R s => s.heap.IsTuple l items ∧
      R (.ok (.ret (.ref (s.heap.push { cls := .type "tuple_iterator", data := .fields #[.ref l, .int 0 0] }).objs.size)))
        { s with heap := (s.heap.push { cls := .type "tuple_iterator", data := .fields #[.ref l, .int 0 0] }).push { cls := .type "enumerate", data := .fields #[.none, .bool false, .ref s.heap.objs.size, rawInt 0, .none, .none] } }) :=
  .of_wp fun prog w A R s h => by
    obtain ⟨hp, g, d, tk, os⟩ := s; obtain ⟨hl, h⟩ := h
    have hsub := sub_enumerate
    have q1 : ∀ {A' : Around} {E : Value → Shared → Prop} {Q : Value → Shared → Prop}, Q (.ref hp.objs.size) ⟨hp.push { cls := .type "tuple_iterator", data := .fields #[.ref l, .int 0 0] }, g, d, tk, os⟩ → wpAny (model prog w) A' (pyIter (.ref l)) Q E ⟨hp, g, d, tk, os⟩ :=
      fun q => wpAny_pyIter_tuple hl q
    wp_walk using q1
    refine wpAny_stack_any fun st => wpAny_pure ?_
    split
    · rename_i c _ _ _ _ _
      cases (c == Value.type "enumerate")
      · wp_walk using q1
        exact ⟨_, rfl, h⟩
      · wp_walk using q1
        exact ⟨_, rfl, h⟩
    · wp_walk using q1
      exact ⟨_, rfl, h⟩
theorem call_enumerate_tuple {prog : Program} {w : World} {A : Around} {E : Value → Shared → Prop} {s : Shared} {l : Addr} {items : Array Value} {Q : Value → Shared → Prop} (hL : s.heap.IsTuple l items)
    (h : ∀ h', IsEnum h' (s.heap.objs.size + 1) s.heap.objs.size 0 .none → h'.IsTupleIter s.heap.objs.size l 0 → h'.objs.size = s.heap.objs.size + 2 →
      (∀ b o, s.heap.get? b = some o → h'.get? b = some o) → Q (.ref (s.heap.objs.size + 1)) { s with heap := h' }) :
    wpAny (model prog w) A (call (.type "enumerate") [.ref l]) Q E s := by
  refine callType_new F.called_enumerate (by decide) (F.typeCall_enumerate_1 _) (F.newCall_enumerate_1 _) (fun obj => F.args_object_init_2 obj _) F.entry_enumerate_new
    (meets_enumerate_newT l items) ⟨hL, ?_⟩
  have hz : (s.heap.push { cls := .type "tuple_iterator", data := .fields #[.ref l, .int 0 0] }).objs.size = s.heap.objs.size + 1 := Heap.size_push ..
  show _ ∧ _
  rw [hz]
  have he : IsEnum ((s.heap.push { cls := .type "tuple_iterator", data := .fields #[.ref l, .int 0 0] }).push
      { cls := .type "enumerate", data := .fields #[.none, .bool false, .ref s.heap.objs.size, rawInt 0, .none, .none] }) (s.heap.objs.size + 1) s.heap.objs.size 0 .none := by
    have := Heap.get?_push_size (s.heap.push { cls := .type "tuple_iterator", data := .fields #[.ref l, .int 0 0] })
      (o := { cls := .type "enumerate", data := .fields #[.none, .bool false, .ref s.heap.objs.size, rawInt 0, .none, .none] }) rfl
    rw [hz] at this; exact this
  refine ⟨⟨_, he, rfl⟩, h _ he ⟨_, Heap.get?_push_of_some _ (Heap.get?_push_size _ rfl), rfl, rfl⟩ (by rw [Heap.size_push, hz]) fun b o x => Heap.get?_push_of_some _ (Heap.get?_push_of_some _ x)⟩
theorem pi_enumT {X : Cx} {e : Expr} {ta : TA} {p pos tpos : Pos} {elts : List Expr} {kk : Nat} (hg : Gl X "enumerate") (hm : X.mg "enumerate" = none) (ha : PA X [e] ta) (hs : starEach [e] X.env = [(false, eval e X.env)] := by rfl) :
    PI X (.Tuple elts kk tpos) (.Call (.Name "enumerate" p) [e] [] pos) (iEnumT X.K ta) := by
  refine ⟨fun pins s σ H R I h => ?_⟩
  refine Call_ (ld_blt I hg hm boot_enumerate (PyProof.Rows.callWith_type1 (thn (ha.run pos pins s σ H _ I h) fun us s1 ⟨vs, H1, I1, r1, q1⟩ => ?_) hs rfl))
  obtain ⟨a, xs, ex, hq, q⟩ := q1
  subst ex
  cases r1 with
  | cons r rr =>
    cases rr
    cases r
    obtain ⟨its, rv, p', hz⟩ := I1.tuple hq
    have hal : a < s1.heap.objs.size := by
      obtain ⟨o, e, _⟩ := id p'
      exact Heap.lt_size e
    refine call_enumerate_tuple (show s1.heap.IsTuple a its.toArray from p') fun h' he hit hsz hk => wpAny_pyIter_enum he ?_
    have I2 : Inv X pins σ H1 { s1 with heap := h' } := I1.kept (t' := s1.toks) hk
    refine ⟨s1.heap.objs.size + 1, [s1.heap.objs.size + 1, s1.heap.objs.size], _, _, H1, rfl, I2, turn_enumT a (s1.heap.objs.size + 1) s1.heap.objs.size (Nat.ne_of_lt hal) (Nat.ne_of_lt (Nat.lt_succ_of_lt hal)), ⟨⟨.none, he⟩, hit, Nat.succ_ne_self _⟩, fun b hb => ?_, q⟩
    have e' : b = s1.heap.objs.size + 1 ∨ b = s1.heap.objs.size := by simpa using hb
    have hle : s1.heap.objs.size ≤ b := by
      rcases e' with z | z
      · rw [z]; exact Nat.le_add_right _ _
      · rw [z]; exact Nat.le_refl _
    exact I1.fpOk hle (I1.hok.fresh hle)
theorem walk_enumT {K : PySem.W.Frag} {a : Addr} {xs : List V} : Walk (IteT K a) xs.length (fun H => SqT K H a xs) (YPair (fun i => some (.int (i : Nat))) (fun i => xs[i]?)) := by
  refine ⟨fun i _ hi q => ⟨xs, xs[i], q, by simp [hi]⟩, fun _ q => ⟨xs, q, Nat.le_refl _⟩, fun i H v H' _ q y => ?_⟩
  obtain ⟨T, x, h1, h2, h3, h4⟩ := y
  exact ⟨T, .int (i : Nat), x, h1, h2, h3, rfl, h4 xs q⟩
theorem walk_zipT {K : PySem.W.Frag} {a b : Addr} {xs ys : List V} {n : Nat} (hn : n = min xs.length ys.length) : Walk (RZ.ItzT K a b) n (fun H => SqT K H a xs ∧ SqT K H b ys) (YPair (fun i => xs[i]?) (fun i => ys[i]?)) := by
  subst hn
  refine ⟨fun i _ hi q => ?_, fun _ q => ⟨xs, ys, q.1, q.2, by omega⟩, fun i H v H' _ q y => ?_⟩
  · have h1 : i < xs.length := by omega
    have h2 : i < ys.length := by omega
    exact ⟨xs, ys, xs[i], ys[i], q.1, q.2, by simp [h1], by simp [h2]⟩
  · obtain ⟨T, x, z, h1, h2, h3, h4, h5⟩ := y
    exact ⟨T, x, z, h1, h2, h3, h4 xs q.1, h5 ys q.2⟩
end Ec
set_option maxRecDepth 100000
set_option maxHeartbeats 4000000
/-! list(zip(a list, a tuple)) -/
namespace Ez
open PySem PySem.Spec PyProof.Rows L2
open Sem (wp)
theorem zip_no_len : typeLookup (.type "zip") "__len__" = pure none := am_miss_of_fast (by decide +kernel)
theorem zip_no_hint : typeLookup (.type "zip") "__length_hint__" = pure none := am_miss_of_fast (by decide +kernel)

section
variable {prog : Program} {w : World} {A : Around} {E : Value → Shared → Prop} {s : Shared} {z TI TO T i1 i2 : Addr} {fp1 fp2 : List Addr} {n1 n2 i : Nat} {P1 P2 : Nat → Value → Prop} {St1 St2 : Nat → Heap → Prop} {f : Bool} {oT : Obj}

theorem next_held {Q : Value → Shared → Prop} (S : ZipSep2 z TI TO i1 i2 fp1 fp2) (D1 : Draws prog w A i1 fp1 n1 P1 St1) (D2 : Draws prog w A i2 fp2 n2 P2 St2)
    (hz : IsZipHeld s.heap z TI TO T f) (hT : s.heap.get? T = some oT) (hTI : IsTupOf2 s.heap TI (.ref i1) (.ref i2)) (st1 : St1 i s.heap) (st2 : St2 i s.heap) (hlt1 : i < n1) (hlt2 : i < n2)
    (hQ : ∀ x1 x2 h' tk, P1 i x1 → P2 i x2 → IsZipHeld h' z TI TO T true → St1 (i + 1) h' → St2 (i + 1) h' → IsTupOf2 h' s.heap.objs.size x1 x2 → h'.objs.size = s.heap.objs.size + 1 →
      (∀ c o, c ≠ z → c ≠ i1 → c ≠ i2 → s.heap.get? c = some o → h'.get? c = some o) → Q (.ref s.heap.objs.size) { s with heap := h', toks := tk }) :
    wpAny (model prog w) A (Builtin.«zip.__next__» ⟨[.ref z], []⟩) (fun fin s' => ∃ v, fin = .done (.ret v) ∧ Q v s') E s := by
  obtain ⟨hp, g, d, tk0, os⟩ := s
  show wpAny _ _ (field (.ref z) 2 >>= _) _ _ _
  refine wpAny_bind (wpAny_field hz rfl (x := .bool false) rfl ?_)
  show wpAny _ _ (field (.ref z) 3 >>= _) _ _ _
  refine wpAny_bind (wpAny_field hz rfl (x := .ref TI) rfl ?_)
  refine wpAny_bind (wpAny_seqItems hTI rfl ?_)
  show wpAny _ _ (Builtin.SmallTypes.ownedTupleIsFree (.ref z) >>= _) _ _ _
  refine wpAny_bind (wpAny_tupleHeld_zip hz hT fun g0 hz0 hs0 => ?_)
  replace hs0 : Heap.SameBut z hp g0 := hs0
  simp only [Bool.false_eq_true, if_false]
  refine wpAny_bind ?_
  rw [← Array.forIn_toList]
  simp only [List.forIn_cons, List.forIn_nil]
  refine wpAny_bind (wpAny_bind (wpAny_holding ?_))
  show wpAny _ _ (Builtin.SmallTypes.nextOf (.ref i1) >>= _) _ _ ⟨g0, g, d, tk0, os⟩
  refine wpAny_bind (D1.item i _ _ _ hlt1 (D1.over st1 hs0 S.zf1) fun x1 p1 tk1 hx1 sn1 hp1 => wpAny_pure ?_)
  replace hp1 : Heap.SameBut i1 g0 p1 := hp1
  refine wpAny_pure ?_
  refine wpAny_bind (wpAny_bind (wpAny_holding ?_))
  show wpAny _ _ (Builtin.SmallTypes.nextOf (.ref i2) >>= _) _ _ ⟨p1, g, d, tk1, os⟩
  refine wpAny_bind (D2.item i _ _ _ hlt2 (D2.over (D2.over st2 hs0 S.zf2) hp1 S.sep1_2) fun x2 p2 tk2 hx2 sn2 hp2 => wpAny_pure ?_)
  replace hp2 : Heap.SameBut i2 p1 p2 := hp2
  refine wpAny_pure (wpAny_pure ?_)
  show wpAny _ _ (newTuple [x1, x2] >>= _) _ _ _
  refine wpAny_bind (wpAny_newTuple ?_)
  have hsz : p2.objs.size = hp.objs.size := by rw [hp2.1, hp1.1, hs0.1]
  have hz3 : IsZipHeld p2 z TI TO T true := hp2.extBut _ _ S.zi2 (hp1.extBut _ _ S.zi1 hz0)
  have hk : ∀ c o, c ≠ z → c ≠ i1 → c ≠ i2 → hp.get? c = some o → p2.get? c = some o := fun c o c1 c2 c3 e => hp2.extBut _ _ c3 (hp1.extBut _ _ c2 (hs0.extBut _ _ c1 e))
  have hj1 : St1 (i + 1) p2 := D1.over sn1 hp2 S.sep2_1
  refine wpAny_pure ⟨_, rfl, ?_⟩
  show Q (.ref p2.objs.size) _
  have hpr : IsTupOf2 (p2.push { cls := .type "tuple", data := .seq #[x1, x2] }) p2.objs.size x1 x2 := Heap.get?_push_size _ rfl
  have hz4 : (p2.push { cls := .type "tuple", data := .seq #[x1, x2] }).objs.size = p2.objs.size + 1 := Heap.size_push ..
  rw [hsz] at hpr hz4 ⊢
  exact hQ x1 x2 _ tk2 hx1 hx2 (Heap.get?_push_of_some _ hz3) (D1.frame _ _ _ hj1 fun b hb o e => Heap.get?_push_of_some _ e) (D2.frame _ _ _ sn2 fun b hb o e => Heap.get?_push_of_some _ e) hpr hz4 fun c o c1 c2 c3 e => Heap.get?_push_of_some _ (hk c o c1 c2 c3 e)

theorem end_held {Q : Fin → Shared → Prop} (S : ZipSep2 z TI TO i1 i2 fp1 fp2) (D1 : Draws prog w A i1 fp1 n1 P1 St1) (D2 : Draws prog w A i2 fp2 n2 P2 St2)
    (hz : IsZipHeld s.heap z TI TO T f) (hT : s.heap.get? T = some oT) (hTI : IsTupOf2 s.heap TI (.ref i1) (.ref i2)) (st1 : St1 i s.heap) (st2 : St2 i s.heap) (hle1 : i ≤ n1) (hle2 : i ≤ n2) (hend : i = n1 ∨ i = n2)
    (hE : ∀ h' tk e, (∀ c o, c ≠ z → c ≠ i1 → c ≠ i2 → s.heap.get? c = some o → h'.get? c = some o) → (∃ o, h'.get? e = some o ∧ o.cls = .type "StopIteration") → E (.ref e) { s with heap := h', toks := tk }) :
    wpAny (model prog w) A (Builtin.«zip.__next__» ⟨[.ref z], []⟩) Q E s := by
  obtain ⟨hp, g, d, tk0, os⟩ := s
  show wpAny _ _ (field (.ref z) 2 >>= _) _ _ _
  refine wpAny_bind (wpAny_field hz rfl (x := .bool false) rfl ?_)
  show wpAny _ _ (field (.ref z) 3 >>= _) _ _ _
  refine wpAny_bind (wpAny_field hz rfl (x := .ref TI) rfl ?_)
  refine wpAny_bind (wpAny_seqItems hTI rfl ?_)
  show wpAny _ _ (Builtin.SmallTypes.ownedTupleIsFree (.ref z) >>= _) _ _ _
  refine wpAny_bind (wpAny_tupleHeld_zip hz hT fun g0 hz0 hs0 => ?_)
  replace hs0 : Heap.SameBut z hp g0 := hs0
  simp only [Bool.false_eq_true, if_false]
  refine wpAny_bind ?_
  rw [← Array.forIn_toList]
  simp only [List.forIn_cons, List.forIn_nil]
  refine wpAny_bind (wpAny_bind (wpAny_holding ?_))
  show wpAny _ _ (Builtin.SmallTypes.nextOf (.ref i1) >>= _) _ _ ⟨g0, g, d, tk0, os⟩
  by_cases hlt1 : i < n1
  · refine wpAny_bind (D1.item i _ _ _ hlt1 (D1.over st1 hs0 S.zf1) fun x1 p1 tk1 hx1 sn1 hp1 => wpAny_pure ?_)
    replace hp1 : Heap.SameBut i1 g0 p1 := hp1
    refine wpAny_pure ?_
    have hi2 : i = n2 := by omega
    refine wpAny_bind (wpAny_bind (wpAny_holding ?_))
    show wpAny _ _ (Builtin.SmallTypes.nextOf (.ref i2) >>= _) _ _ ⟨p1, g, d, tk1, os⟩
    refine wpAny_bind (D2.done ⟨p1, g, d, tk1, os⟩ _ _ (by rw [← hi2]; exact (D2.over (D2.over st2 hs0 S.zf2) hp1 S.sep1_2)) fun q e hq he => ?_)
    replace hq : Heap.ExtBut i2 p1 q := hq
    exact hE q tk1 e (fun c o cz c1 c2 x => hq _ _ c2 (hp1.extBut _ _ c1 (hs0.extBut _ _ cz x))) he
  · have hi1 : i = n1 := by omega
    refine wpAny_bind (D1.done ⟨g0, g, d, tk0, os⟩ _ _ (by rw [← hi1]; exact (D1.over st1 hs0 S.zf1)) fun q e hq he => ?_)
    replace hq : Heap.ExtBut i1 g0 q := hq
    exact hE q tk0 e (fun c o cz c1 c2 x => hq _ _ c1 (hs0.extBut _ _ cz x)) he

theorem pyNext_held {Q : Option Value → Shared → Prop} (S : ZipSep2 z TI TO i1 i2 fp1 fp2) (D1 : Draws prog w A.in1 i1 fp1 n1 P1 St1) (D2 : Draws prog w A.in1 i2 fp2 n2 P2 St2)
    (hz : IsZipHeld s.heap z TI TO T f) (hT : s.heap.get? T = some oT) (hTI : IsTupOf2 s.heap TI (.ref i1) (.ref i2)) (st1 : St1 i s.heap) (st2 : St2 i s.heap) (hlt1 : i < n1) (hlt2 : i < n2)
    (hQ : ∀ x1 x2 h' tk, P1 i x1 → P2 i x2 → IsZipHeld h' z TI TO T true → St1 (i + 1) h' → St2 (i + 1) h' → IsTupOf2 h' s.heap.objs.size x1 x2 → h'.objs.size = s.heap.objs.size + 1 →
      (∀ c o, c ≠ z → c ≠ i1 → c ≠ i2 → s.heap.get? c = some o → h'.get? c = some o) → Q (some (.ref s.heap.objs.size)) { s with heap := h', toks := tk }) :
    wpAny (model prog w) A (pyNext (.ref z)) Q E s := by
  have hTy : s.TypeIs (.ref z) "zip" := ⟨_, hz, rfl⟩
  unfold pyNext
  exact wpAny_bind (wpAny_attempt (wpAny_callSpecial?_slot (name := Str.ofString "__next__") hTy F.slot_zip_next
    (wpAny_call_entry F.slot_zip_next hTy F.entry_zip_next
      (next_held S D1 D2 hz hT hTI st1 st2 hlt1 hlt2 fun x1 x2 h' tk y1 y2 b1 d1 d2 b5 b6 b7 => wpAny_pure (hQ x1 x2 h' tk y1 y2 b1 d1 d2 b5 b6 b7)) (F.args_zip_next_1 _))))
theorem pyNext_end {Q : Option Value → Shared → Prop} (S : ZipSep2 z TI TO i1 i2 fp1 fp2) (D1 : Draws prog w A.in1 i1 fp1 n1 P1 St1) (D2 : Draws prog w A.in1 i2 fp2 n2 P2 St2)
    (hz : IsZipHeld s.heap z TI TO T f) (hT : s.heap.get? T = some oT) (hTI : IsTupOf2 s.heap TI (.ref i1) (.ref i2)) (st1 : St1 i s.heap) (st2 : St2 i s.heap) (hle1 : i ≤ n1) (hle2 : i ≤ n2) (hend : i = n1 ∨ i = n2)
    (hQ : ∀ h' tk, (∀ c o, c ≠ z → c ≠ i1 → c ≠ i2 → s.heap.get? c = some o → h'.get? c = some o) → Q none { s with heap := h', toks := tk }) : wpAny (model prog w) A (pyNext (.ref z)) Q E s := by
  have hTy : s.TypeIs (.ref z) "zip" := ⟨_, hz, rfl⟩
  unfold pyNext
  refine wpAny_bind (wpAny_attempt (wpAny_callSpecial?_slot (name := Str.ofString "__next__") hTy F.slot_zip_next
    (wpAny_call_entry F.slot_zip_next hTy F.entry_zip_next (end_held S D1 D2 hz hT hTI st1 st2 hle1 hle2 hend fun h' tk e hk he => ?_) (F.args_zip_next_1 _))))
  obtain ⟨o, ho, hc⟩ := he
  refine wpAny_bind (wpAny_isInstance (T := "StopIteration") (b := true) ⟨o, ho, hc⟩ isSubtype_stop ?_)
  exact wpAny_pure (hQ _ _ hk)
end

/-- a zip of the list l and the tuple t ahead of item i; S: the list that is filled -/
structure ZSt (h : Heap) (z TI TO i1 i2 l t : Addr) (xs ys : Array Value) (S : Addr) (i : Nat) : Prop where
  ti : IsTupOf2 h TI (.ref i1) (.ref i2)
  a1 : h.IsListIter i1 l i ∧ h.IsList l xs
  a2 : h.IsTupleIter i2 t i ∧ h.IsTuple t ys
  zz : (IsZip h z TI TO .none ∧ ∃ a b, IsTupOf2 h TO a b) ∨ ∃ T f oT, IsZipHeld h z TI TO T f ∧ h.get? T = some oT ∧ T ≠ z ∧ T ≠ i1 ∧ T ≠ i2 ∧ T ≠ S
/-- the addresses lie apart -/
structure ZAp (z TI TO i1 i2 l t S : Addr) : Prop where
  sep : ZipSep2 z TI TO i1 i2 [i1, l] [i2, t]
  li : l ≠ i1
  ti : t ≠ i2
  lz : l ≠ z ∧ l ≠ TO ∧ l ≠ i2
  tz : t ≠ z ∧ t ≠ TO ∧ t ≠ i1
  S : S ≠ z ∧ S ≠ TI ∧ S ≠ TO ∧ S ≠ i1 ∧ S ≠ i2 ∧ S ≠ l ∧ S ≠ t
section
variable {prog : Program} {w : World} {A : Around} {E : Value → Shared → Prop} {s : Shared} {z TI TO i1 i2 l t S : Addr} {xs ys : Array Value} {i : Nat}
theorem ZSt.keep {h h' : Heap} (st : ZSt h z TI TO i1 i2 l t xs ys S i) (D : ZAp z TI TO i1 i2 l t S) (k : ∀ b o, b ≠ S → h.get? b = some o → h'.get? b = some o) : ZSt h' z TI TO i1 i2 l t xs ys S i := by
  obtain ⟨s1, s2, s3, s4, s5, s6, s7⟩ := D.S
  refine ⟨k _ _ (Ne.symm s2) st.ti, ⟨st.a1.1.at fun o e => k _ o (Ne.symm s4) e, st.a1.2.at fun o e => k _ o (Ne.symm s6) e⟩, ⟨st.a2.1.at fun o e => k _ o (Ne.symm s5) e, st.a2.2.at fun o e => k _ o (Ne.symm s7) e⟩, ?_⟩
  rcases st.zz with ⟨hz, a, b, hTO⟩ | ⟨T, f, oT, hz, hT, r1, r2, r3, r4⟩
  · exact .inl ⟨k _ _ (Ne.symm s1) hz, a, b, k _ _ (Ne.symm s3) hTO⟩
  · exact .inr ⟨T, f, oT, k _ _ (Ne.symm s1) hz, k _ _ r4 hT, r1, r2, r3, r4⟩
theorem zip_item {Q : Option Value → Shared → Prop} (hh : A.handled = none) (D : ZAp z TI TO i1 i2 l t S) (st : ZSt s.heap z TI TO i1 i2 l t xs ys S i) (hS : S < s.heap.objs.size) (h1 : i < xs.size) (h2 : i < ys.size)
    (hQ : ∀ h' tk, ZSt h' z TI TO i1 i2 l t xs ys S (i + 1) → h'.get? s.heap.objs.size = some { cls := .type "tuple", data := .seq #[xs[i], ys[i]] } → h'.objs.size = s.heap.objs.size + 1 →
      (∀ b o, b ≠ z → b ≠ TO → b ≠ i1 → b ≠ i2 → s.heap.get? b = some o → h'.get? b = some o) → Q (some (.ref s.heap.objs.size)) { s with heap := h', toks := tk }) :
    wpAny (model prog w) A (pyNext (.ref z)) Q E s := by
  have D1 := Draws.list (prog := prog) (w := w) (A := A.in1) (show A.in1.handled = none from hh) i1 l D.li xs
  have D2 := Draws.tuple (prog := prog) (w := w) (A := A.in1) (show A.in1.handled = none from hh) i2 t D.ti ys
  have lt : ∀ {c o}, s.heap.get? c = some o → s.heap.objs.size ≠ c := fun e => Nat.ne_of_gt (Heap.lt_size e)
  have n1 : s.heap.objs.size ≠ i1 := let ⟨_, e, _⟩ := st.a1.1; lt e
  have n2 : s.heap.objs.size ≠ i2 := let ⟨_, e, _⟩ := st.a2.1; lt e
  have sep := D.sep
  rcases st.zz with ⟨hz, a, b, hTO⟩ | ⟨T, f, oT, hz, hT, r1, r2, r3, r4⟩
  · refine wpAny_pyNext_zipD2_item sep D1 D2 hz st.ti hTO st.a1 st.a2 h1 h2 fun x1 x2 h' tk y1 y2 b1 b2 d1 d2 b5 b6 hk => ?_
    have e1 : x1 = xs[i] := by rw [Array.getElem?_eq_getElem h1] at y1; exact (Option.some.inj y1).symm
    have e2 : x2 = ys[i] := by rw [Array.getElem?_eq_getElem h2] at y2; exact (Option.some.inj y2).symm
    subst e1 e2
    exact hQ h' tk ⟨hk _ _ sep.TIz sep.TITO sep.TIi1 sep.TIi2 st.ti, d1, d2, .inr ⟨s.heap.objs.size, false, _, b1, b5, lt hz, n1, n2, Nat.ne_of_gt hS⟩⟩ b5 b6 hk
  · refine pyNext_held sep D1 D2 hz hT st.ti st.a1 st.a2 h1 h2 fun x1 x2 h' tk y1 y2 b1 d1 d2 b5 b6 hk => ?_
    have e1 : x1 = xs[i] := by rw [Array.getElem?_eq_getElem h1] at y1; exact (Option.some.inj y1).symm
    have e2 : x2 = ys[i] := by rw [Array.getElem?_eq_getElem h2] at y2; exact (Option.some.inj y2).symm
    subst e1 e2
    exact hQ h' tk ⟨hk _ _ sep.TIz sep.TIi1 sep.TIi2 st.ti, d1, d2, .inr ⟨T, true, oT, b1, hk _ _ r1 r2 r3 hT, r1, r2, r3, r4⟩⟩ b5 b6 fun b o c1 _ c3 c4 e => hk b o c1 c3 c4 e
theorem zip_done {Q : Option Value → Shared → Prop} (hh : A.handled = none) (D : ZAp z TI TO i1 i2 l t S) (st : ZSt s.heap z TI TO i1 i2 l t xs ys S i) (h1 : i ≤ xs.size) (h2 : i ≤ ys.size) (he : i = xs.size ∨ i = ys.size)
    (hQ : ∀ h' tk, (∀ b o, b ≠ z → b ≠ TO → b ≠ i1 → b ≠ i2 → s.heap.get? b = some o → h'.get? b = some o) → Q none { s with heap := h', toks := tk }) : wpAny (model prog w) A (pyNext (.ref z)) Q E s := by
  have D1 := Draws.list (prog := prog) (w := w) (A := A.in1) (show A.in1.handled = none from hh) i1 l D.li xs
  have D2 := Draws.tuple (prog := prog) (w := w) (A := A.in1) (show A.in1.handled = none from hh) i2 t D.ti ys
  have sep := D.sep
  rcases st.zz with ⟨hz, a, b, hTO⟩ | ⟨T, f, oT, hz, hT, r1, r2, r3, r4⟩
  · exact wpAny_pyNext_zipD2_end sep D1 D2 hz st.ti hTO st.a1 st.a2 h1 h2 he hQ
  · exact pyNext_end sep D1 D2 hz hT st.ti st.a1 st.a2 h1 h2 he fun h' tk hk => hQ h' tk fun b o c1 _ c3 c4 e => hk b o c1 c3 c4 e
end
end Ez
set_option maxRecDepth 100000
set_option maxHeartbeats 4000000
/-! a def by its promise alone; own ==, != and str of slotted instances -/
namespace PySem.W
open PySem PySem.Spec PySem.Calls PyProof.Rows
section
variable {prog : Program} {w : World} {A : Around} {E : Value → Shared → Prop} {s : Shared} {K : Frag} {x C L f : Addr} {h₀ : Heap} {m : Str → Option Value} {ox : Obj} {od : Option Obj} {b tb : Value}
theorem ecn_ifBound {id : String} {name : Str} {M : Model} {args : List Value} {Q : Option Value → Shared → Prop} (X : K.In s.heap) (I : InstAt s.heap x ox C od) (hs : findIn K (.ref C) name = some (some (.builtin id)))
    (hb : ∀ self, bindSpecial (.builtin id) self = pure (.builtin id, [self]))
    (h : wpAny M A (call (.builtin id) (.ref x :: args)) (fun v => Q (some v)) E s) : wpAny M A (callSpecialIfBound? (.ref x) name args) Q E s := by
  simp only [callSpecialIfBound?, bindSpecialIfBound?]
  refine wpAny_holding (wpAny_bind (wpAny_bind (wpAny_bind (I.type.here ((looks_findIn X hs).here ?_)))))
  refine wpAny_bind (wpAny_askSetting (wpAny_ite ?_))
  have fin : wpAny M A (call (.builtin id) ([.ref x] ++ args) >>= fun v => pure (some v)) Q E s := wpAny_bind (wpAny_mono h (fun v s' h' => wpAny_pure h') fun _ _ h' => h')
  split
  · exact wpAny_bind ((Looks.of_pure (hb _)).here (wpAny_pure (by exact fin)))
  · exact wpAny_tryCatch (wpAny_bind ((Looks.of_pure (hb _)).here (wpAny_pure (by exact fin))))
theorem ecn_obj {Q : Value → Shared → Prop} (hu : A.in1.units < cLine) (X : K.In s.heap) (I : InstAt s.heap x ox C od) (hm : mroIn K C (.type "object") = some true)
    (he : findIn K (.ref C) "__eq__" = some (some (.ref f))) (hf : isFn K (.ref f) = true)
    (h : wpAny (model prog w) A.in1 (call (.ref f) [.ref x, b]) (fun v s' => ∃ k, v = .bool k ∧ Q (.bool (!k)) s') E s) : wpAny (model prog w) A (call (.builtin "object.__ne__") [.ref x, b]) Q E s := by
  refine wpAny_call (codeAny_call_builtin PySem.F.slot_object_ne.plain PySem.F.entry_object_ne (check_slot (i := "object.__ne__") (owner := "object") (n := "__ne__") (by decide +kernel) (by decide +kernel) (I.type.andThen (looks_mroIn X hm)) (PySem.F.args_object_ne_2 _ _) ?_))
  unfold Builtin.«object.__ne__»
  refine wpAny_bind (m := slotArgs "__ne__" 1 _) (wpAny_pure ?_)
  refine wpAny_bind (m := cRoomFor _ _) (wpAny_cRoomFor hu ?_)
  refine wpAny_bind (m := callSpecialIfBound? (.ref x) (Str.ofString "__eq__") [b]) (ifBound_K X I he hf (wpAny_mono h (fun r s' hq => ?_) fun _ _ y => y))
  obtain ⟨k, rfl, q⟩ := hq
  exact wpAny_bind (m := truthy (.bool k)) (wpAny_truthy_bool (wpAny_pure q))
theorem ecn_ne {Q : Value → Shared → Prop} (hu : A.units < cLine) (hu1 : A.in1.units < cLine) (F : Fr h₀ L s.heap m) (X₀ : K.In h₀) (I : InstAt s.heap x ox C od) (hb : Looks (model prog w) s.heap (typeOf b) tb) (hn : notFirst K C tb = true)
    (hs : findIn K (.ref C) "__ne__" = some (some (.builtin "object.__ne__"))) (hm : mroIn K C (.type "object") = some true) (he : findIn K (.ref C) "__eq__" = some (some (.ref f))) (hf : isFn K (.ref f) = true)
    (h : wpAny (model prog w) A.in1 (call (.ref f) [.ref x, b]) (fun v s' => ∃ k, v = .bool k ∧ Q (.bool (!k)) s') E s) : wpAny (model prog w) A (richCompare .NotEq (.ref x) b) Q E s := by
  have X := X₀.keeps F.keep
  have one : wpAny (model prog w) A (tryCompare (.ref x) "__ne__" b) (fun r s' => ∃ k, r = some (.bool k) ∧ Q (.bool k) s') E s := by
    unfold tryCompare
    refine wpAny_bind (ecn_ifBound X I hs PySem.F.slot_object_ne.bind (ecn_obj hu1 X I hm he hf (wpAny_mono h (fun v s' hv => ?_) fun _ _ e => e)))
    obtain ⟨k, rfl, q⟩ := hv
    exact ⟨k, rfl, wpAny_pure ⟨_, rfl, q⟩⟩
  unfold richCompare
  simp only [oneThing_ref]
  refine wpAny_holding (wpAny_bind (wpAny_cRoomFor hu ?_))
  rw [cmpInfo_NotEq]
  dsimp only
  refine wpAny_bind (I.type.here (wpAny_bind (hb.here ?_)))
  split
  · rename_i q
    have e : subIn K tb (.ref C) = some false := by
      rcases Bool.or_eq_true_iff.mp hn with e | e
      · rw [beq_iff_eq.mp e] at q; simp at q
      · exact beq_iff_eq.mp e
    refine wpAny_bind ((looks_subIn X e).here ?_)
    simp only [Bool.false_eq_true, if_false]
    refine wpAny_bind (wpAny_mono one (fun r s' z => ?_) fun _ _ e => e)
    obtain ⟨v, rfl, hq⟩ := z
    exact wpAny_pure hq
  · refine wpAny_bind (wpAny_pure ?_)
    simp only [Bool.false_eq_true, if_false]
    refine wpAny_bind (wpAny_mono one (fun r s' z => ?_) fun _ _ e => e)
    obtain ⟨v, rfl, hq⟩ := z
    exact wpAny_pure hq
end
end PySem.W

namespace Ec
open PySem PySem.Spec PyProof.Rows L2 SlX

/-! ### a def of the text, by its promise alone -/
structure Cal (P : Program) (w : World) (K : PySem.W.Frag) (mg : Str → Option Value) (base : Heap) (k : Nat) (x : Str) (ps : List Str) (sp : Sp) : Prop where
  ex : ∃ (f : Addr) (fd : FuncData), FnOk P w K mg base CX0 k f fd ps sp ∧ mg x = some (.ref f) ∧ PySem.W.keepIn K (.ref f) = true ∧ Binds K fd ps []
section
variable {X : Cx} {k : Nat} {x : Str} {ps : List Str} {sp : Sp} {p pos : Pos} {e : Expr} {es : List Expr} {t : TA}
theorem pe_cal (C : Cal X.prog X.w X.K X.mg X.base k x ps sp) (hr : Room k X.A) (hg : Gl X x) (ha : PA X (e :: es) t) (hdb : (x == ("__debug__" : Str)) = false := by decide) (he : starEach (e :: es) X.env = (false, eval e X.env) :: starEach es X.env := by rfl)
    (hpl : (backTo pos (starEach es X.env)).any (·.1) = false := by rfl) : PE X (.Call (.Name x p) (e :: es) [] pos) (tCall sp [] E0 t) := by
  obtain ⟨f, fd, F, m, kp, b⟩ := C.ex
  exact pe_call F hr hg m kp b .nil pass0 ha hdb he hpl
/-- module constants -/
theorem pe_gi {i : Int} (hm : ∃ t, X.mg x = some (.int i t)) (hg : Gl X x) (hd : (x == ("__debug__" : Str)) = false := by decide) : PE X (.Name x pos) (tC (.int i)) := by
  obtain ⟨t, hm⟩ := hm
  exact pe_glob hg hm ⟨t, rfl⟩ hd
theorem pe_gs {z : Str} (hm : ∃ t, X.mg x = some (.str z t)) (hg : Gl X x) (hd : (x == ("__debug__" : Str)) = false := by decide) : PE X (.Name x pos) (tC (.str z)) := by
  obtain ⟨t, hm⟩ := hm
  exact pe_glob hg hm ⟨t, rfl⟩ hd
end

/-! ### own ==, != of a slotted instance, whatever stands on the right; str -/
section
variable {X : Cx} {CX : CXT} {C g : Addr} {n : Nat} {sp : Sp} {E : XK}
/-- the right side: a value of a known type, or an instance of C -/
def RgtV (K : PySem.W.Frag) (H : Hp) (C : Addr) (y : V) : Prop := (∃ t, TyX K H y t ∧ PySem.W.notFirst K C t = true) ∨ ∃ b dy ws, y = .ref b ∧ Slt H b C dy ws
theorem rgt_looks {pins : List (Addr × Obj)} {σ : L2.St} {H : Hp} {s : Shared} {y : V} {u : Value} (I : Inv X pins σ H s) (ry : RelV y u) (r : RgtV X.K H C y) : ∃ tb, PySem.W.Looks (model X.prog X.w) s.heap (typeOf u) tb ∧ PySem.W.notFirst X.K C tb = true := by
  rcases r with ⟨t, ty, hn⟩ | ⟨b, dy, ws, rfl, hb⟩
  · obtain ⟨P, Z, p, _⟩ := kit_of I ry ty
    exact ⟨t, Z.ty _ _ I.kIn p, hn⟩
  · cases (show u = Value.ref b from ry)
    obtain ⟨sl, od, _, J, _⟩ := slt_inst I hb
    exact ⟨.ref C, J.type, by simp [PySem.W.notFirst]⟩
def rOwnEq (K : PySem.W.Frag) (C : Addr) (sp : Sp) (E : XK) : R2 := fun x y H Q => ∃ a dx vs, x = .ref a ∧ Slt H a C dx vs ∧ RgtV K H C y ∧ sp [x, y] H Q E
theorem op_ownEq (hs : PySem.W.findIn X.K (.ref C) "__eq__" = some (some (.ref g))) (hf : PySem.W.isFn X.K (.ref g) = true) (F : FnR X.prog X.w X.K X.mg X.base CX n g sp) (hr : Room n X.A) (hx : Passes CX X E) : OpR X (compareOp .Eq) (rOwnEq X.K C sp E) := by
  intro pins s σ H x y v u Q I rx ry h
  obtain ⟨a, dx, vs, rfl, ha, hR, q⟩ := h
  cases (show v = Value.ref a from rx)
  obtain ⟨sl, od, _, J, _⟩ := slt_inst I ha
  obtain ⟨tb, hl, hn⟩ := rgt_looks I ry hR
  obtain ⟨m, hF⟩ := I.fr
  show wpAny _ _ (richCompare .Eq _ _) _ _ _
  refine PySem.W.cmp_K (op := .Eq) hr.units0 hF I.ok.mod.kin J hl hn hs hf ?_
  refine wpAny_mono (wpAny_call (run_fnR (us := [.ref a, u]) (vs := [.ref a, y]) F hr hx I (.cons rfl (.cons ry .nil)) q)) (fun w s' z => ?_) fun _ _ x => x
  obtain ⟨z', H', I', rz, qz⟩ := z
  exact cmpback rz ⟨z', H', I', rz, qz⟩
def rOwnNe (K : PySem.W.Frag) (C : Addr) (sp : Sp) (E : XK) : R2 := fun x y H Q => ∃ a dx vs, x = .ref a ∧ Slt H a C dx vs ∧ RgtV K H C y ∧ sp [x, y] H (fun z H' => ∃ k, z = .bl k ∧ Q (.bl (!k)) H') E
theorem op_ownNe (hne : PySem.W.findIn X.K (.ref C) "__ne__" = some (some (.builtin "object.__ne__"))) (hmr : PySem.W.mroIn X.K C (.type "object") = some true)
    (hs : PySem.W.findIn X.K (.ref C) "__eq__" = some (some (.ref g))) (hf : PySem.W.isFn X.K (.ref g) = true) (F : FnR X.prog X.w X.K X.mg X.base CX n g sp) (hr : Room (n + 1) X.A) (hx : Passes CX X E) : OpR X (compareOp .NotEq) (rOwnNe X.K C sp E) := by
  intro pins s σ H x y v u Q I rx ry h
  obtain ⟨a, dx, vs, rfl, ha, hR, q⟩ := h
  cases (show v = Value.ref a from rx)
  obtain ⟨sl, od, _, J, _⟩ := slt_inst I ha
  obtain ⟨tb, hl, hn⟩ := rgt_looks I ry hR
  obtain ⟨m, hF⟩ := I.fr
  show wpAny _ _ (richCompare .NotEq _ _) _ _ _
  refine PySem.W.ecn_ne hr.units0 hr.in1.units0 hF I.ok.mod.kin J hl hn hne hmr hs hf ?_
  refine wpAny_mono (wpAny_call (run_at (us := [.ref a, u]) (ws := [.ref a, y]) F hr.in1 I.env0.in1 hx I (.cons rfl (.cons ry .nil)) q)) (fun w s' z => ?_) fun _ _ x => x
  obtain ⟨z', H', I', rz, k, ez, qz⟩ := z
  subst ez
  cases (show w = Value.bool k from rz)
  exact ⟨k, rfl, .bl (!k), H', I', rfl, qz⟩
/-- str(x) by the class's own __str__ -/
def rStrOwn (C : Addr) (sp : Sp) (E : XK) : List V → Hp → VK → Prop := fun xs H Q => ∃ a dx vs, xs = [V.ref a] ∧ Slt H a C dx vs ∧ sp [.ref a] H (fun z H' => ∃ y, z = .str y ∧ Q z H') E
theorem call_strOwn (hs : PySem.W.findIn X.K (.ref C) "__str__" = some (some (.ref g))) (hf : PySem.W.isFn X.K (.ref g) = true) (F : FnR X.prog X.w X.K X.mg X.base CX n g sp) (hr : Room (n + 2) X.A) (hx : Passes CX X E) : CallR X (.type "str") (rStrOwn C sp E) := by
  intro pins s σ H xs us Q I r h
  obtain ⟨a, dx, vs, rfl, hsl, q⟩ := h
  obtain ⟨u, rfl, ru⟩ := r.one
  cases (show u = Value.ref a from ru)
  obtain ⟨sl, od, _, J, _⟩ := slt_inst I hsl
  have hr2 : Room n X.A.in1.in1 := (show Room (n + 1) X.A.in1 from Room.in1 hr).in1
  refine PySem.W.kso_call hr2.units0 I.kIn J hs hf (wpAny_mono (wpAny_call (run_at (us := [.ref a]) (ws := [.ref a]) F hr2 I.env0.in1.in1 hx I (.cons rfl .nil) q)) (fun w s' z => ?_) fun _ _ x => x)
  obtain ⟨z', H', I', rz, y, ey, qz⟩ := z
  subst ey
  obtain ⟨t, e⟩ := (show ∃ t, w = Value.str y t from rz)
  subst e
  exact ⟨.str y, H', I', ⟨t, rfl⟩, qz⟩
end
end Ec
set_option maxRecDepth 100000
set_option maxHeartbeats 4000000
/-! list(zip(a list, a tuple)), the call -/
namespace Ez
open PySem PySem.Spec PyProof.Rows L2
open Sem (wp)
/-- the addresses as hold the pairs, in order; they lie from lo on and rise -/
structure ZG (xs ys : Array Value) (lo : Addr) (h : Heap) (as : List Addr) : Prop where
  rise : as.Pairwise (· < ·)
  above : ∀ a ∈ as, lo ≤ a
  pairs : ∀ (j : Nat) (a : Addr), as[j]? = some a → ∃ (hj : j < xs.size) (hk : j < ys.size), h.get? a = some { cls := .type "tuple", data := .seq #[xs[j], ys[j]] }
theorem ZG.there {xs ys : Array Value} {lo : Addr} {h : Heap} {as : List Addr} (g : ZG xs ys lo h as) {a : Addr} (ha : a ∈ as) : a < h.objs.size := by
  obtain ⟨j, hj⟩ := List.mem_iff_getElem?.mp ha
  obtain ⟨_, _, e⟩ := g.pairs j a hj
  exact Heap.lt_size e
theorem ZG.low {xs ys : Array Value} {lo lo' : Addr} {h : Heap} {as : List Addr} (g : ZG xs ys lo h as) (hl : lo' ≤ lo) : ZG xs ys lo' h as := ⟨g.rise, fun a ha => Nat.le_trans hl (g.above a ha), g.pairs⟩
section
variable {prog : Program} {w : World} {A : Around} {s : Shared} {R : Result → Shared → Prop} {z TI TO i1 i2 l t S : Addr} {xs ys : Array Value}
theorem zl_loop (hh : A.handled = none) (D : ZAp z TI TO i1 i2 l t S) {n : Nat} (hnm : n = min xs.size ys.size) (hn : n ≤ sizeLine) (res : Value) {h₁ : Heap} {lo : Addr} (hz : z < lo) (hTO : TO < lo) (h1 : i1 < lo) (h2 : i2 < lo) (hSl : S < lo)
    (hR : ∀ h' tk acc c as, (∀ b o, b ≠ S → b ≠ z → b ≠ TO → b ≠ i1 → b ≠ i2 → h₁.get? b = some o → h'.get? b = some o) → h'.get? S = some { cls := .type "list", dict := none, data := .seq acc c, slots := #[] } → as.length = n → ZG xs ys lo h' as →
      acc.toList = as.map Value.ref → R (.ok (.ret res)) { s with heap := h', toks := tk }) :
    ∀ (k i : Nat) (h : Heap) (tk c : Nat) (acc : Array Value) (as : List Addr), n - i = k → i ≤ n → ZSt h z TI TO i1 i2 l t xs ys S i → (∀ b o, b ≠ S → b ≠ z → b ≠ TO → b ≠ i1 → b ≠ i2 → h₁.get? b = some o → h.get? b = some o) →
      h.get? S = some { cls := .type "list", dict := none, data := .seq acc c, slots := #[] } → acc.toList = as.map Value.ref → as.length = i → ZG xs ys lo h as → lo ≤ h.objs.size →
      codeAny (model prog w) A (.builtin "list.extend.loop" ⟨[.ref S, .ref z, res], []⟩) R { s with heap := h, toks := tk } := by
  have a1 : n ≤ xs.size := by omega
  have a2 : n ≤ ys.size := by omega
  obtain ⟨s1, s2, s3, s4, s5, s6, s7⟩ := D.S
  intro k
  induction k with
  | zero =>
    intro i h tk c acc as hk hi hst hkeep hS hacc hal hG hlo
    have hin : i = n := by omega
    refine codeAny_builtin PySem.F.entry_extend_loop ?_
    rw [Around.under_plainId PySem.F.plain_extend_loop _]
    show wpAny _ A.in1 (pyNext (.ref z) >>= _) _ _ _
    refine wpAny_bind (zip_done (s := { s with heap := h, toks := tk }) (A := A.in1) hh D hst (by omega) (by omega) (by omega) fun h' tk' he => ?_)
    refine wpAny_pure (hR h' tk' acc c as (fun b o c1 c2 c3 c4 c5 e => he b o c2 c3 c4 c5 (hkeep b o c1 c2 c3 c4 c5 e)) (he S _ s1 s3 s4 s5 hS) (by omega) ⟨hG.rise, hG.above, fun j a hj => ?_⟩ hacc)
    obtain ⟨hj', hk', e3⟩ := hG.pairs j a hj
    have ha := hG.above a (List.mem_of_getElem? hj)
    exact ⟨hj', hk', he a _ (Nat.ne_of_gt (Nat.lt_of_lt_of_le hz ha)) (Nat.ne_of_gt (Nat.lt_of_lt_of_le hTO ha)) (Nat.ne_of_gt (Nat.lt_of_lt_of_le h1 ha)) (Nat.ne_of_gt (Nat.lt_of_lt_of_le h2 ha)) e3⟩
  | succ k ih =>
    intro i h tk c acc as hk hi hst hkeep hS hacc hal hG hlo
    have hlt : i < n := by omega
    have hsz : acc.size = i := by rw [← Array.length_toList, hacc, List.length_map, hal]
    refine codeAny_builtin PySem.F.entry_extend_loop ?_
    rw [Around.under_plainId PySem.F.plain_extend_loop _]
    show wpAny _ A.in1 (pyNext (.ref z) >>= _) _ _ _
    refine wpAny_bind (zip_item (s := { s with heap := h, toks := tk }) (A := A.in1) hh D hst (Heap.lt_size hS) (show i < xs.size by omega) (show i < ys.size by omega) fun h' tk' hst' ht hz' hkp => ?_)
    dsimp only at ht hz' hkp ⊢
    have hS' := hkp S _ s1 s3 s4 s5 hS
    have up : ∀ b o, b ≠ S → h'.get? b = some o → (h'.update S (Obj.mapSeq (·.push (Value.ref h.objs.size)))).get? b = some o := fun b o hb e => (Heap.get?_update_other _ _ (Ne.symm hb)).trans e
    have hSl' : S < h.objs.size := Heap.lt_size hS
    show wpAny _ A.in1 (updateSeq S (·.push (Value.ref h.objs.size)) >>= _) _ _ _
    refine wpAny_bind ?_
    refine wpAny_updateSeq hS' rfl (wpAny_pure ⟨plainId_quiet PySem.F.plain_extend_loop _, ih (i + 1) _ tk' _ (acc.push (Value.ref h.objs.size)) (as ++ [h.objs.size]) (by omega) hlt (hst'.keep D up)
      (fun b o c1 c2 c3 c4 c5 e => up b o c1 (hkp b o c2 c3 c4 c5 (hkeep b o c1 c2 c3 c4 c5 e))) (Heap.get?_update_self _ hS' rfl) (by rw [Array.toList_push, hacc, List.map_append]; rfl) (by rw [List.length_append, hal]; rfl) ⟨?_, ?_, ?_⟩ ?_⟩) (by rw [hsz]; omega) (by show (acc.push (Value.ref h.objs.size)).size ≤ sizeLine + 1; rw [Array.size_push, hsz]; omega)
    · refine List.pairwise_append.mpr ⟨hG.rise, List.pairwise_singleton _ _, fun a ha b hb => ?_⟩
      rw [List.mem_singleton.mp hb]
      exact hG.there ha
    · intro a ha
      rcases List.mem_append.mp ha with ha | ha
      · exact hG.above a ha
      · rw [List.mem_singleton.mp ha]; exact hlo
    · intro j b hj
      rcases Nat.lt_trichotomy j as.length with q1 | q1 | q1
      · rw [List.getElem?_append_left q1] at hj
        obtain ⟨hj', hk', e3⟩ := hG.pairs j b hj
        have hb := hG.above b (List.mem_of_getElem? hj)
        exact ⟨hj', hk', up b _ (Nat.ne_of_gt (Nat.lt_of_lt_of_le hSl hb)) (hkp b _ (Nat.ne_of_gt (Nat.lt_of_lt_of_le hz hb)) (Nat.ne_of_gt (Nat.lt_of_lt_of_le hTO hb)) (Nat.ne_of_gt (Nat.lt_of_lt_of_le h1 hb)) (Nat.ne_of_gt (Nat.lt_of_lt_of_le h2 hb)) e3)⟩
      · subst q1
        have hb : h.objs.size = b := by simpa using hj
        subst hb
        exact ⟨by omega, by omega, by subst hal; exact up _ _ (Nat.ne_of_gt hSl') ht⟩
      · have hnone : (as ++ [h.objs.size])[j]? = none := List.getElem?_eq_none (by rw [List.length_append, List.length_singleton]; omega)
        rw [hnone] at hj; cases hj
    · have e : (h'.update S (Obj.mapSeq (·.push (Value.ref h.objs.size)))).get? h.objs.size = _ := up _ _ (Nat.ne_of_gt hSl') ht
      exact Nat.le_trans hlo (Nat.le_of_lt (Heap.lt_size e))
end
section
variable {prog : Program} {w : World} {A : Around} {E : Value → Shared → Prop} {s : Shared} {z TI TO i1 i2 l t : Addr} {xs ys : Array Value}
/-- list(z), z a zip just made -/
theorem zl_call {Q : Value → Shared → Prop} (hh : A.handled = none) (sep : ZipSep2 z TI TO i1 i2 [i1, l] [i2, t]) (hli : l ≠ i1) (hti : t ≠ i2) (lz : l ≠ z ∧ l ≠ TO ∧ l ≠ i2) (tz : t ≠ z ∧ t ≠ TO ∧ t ≠ i1) (st : ∀ S, ZSt s.heap z TI TO i1 i2 l t xs ys S 0)
    (lts : z < s.heap.objs.size ∧ TI < s.heap.objs.size ∧ TO < s.heap.objs.size ∧ i1 < s.heap.objs.size ∧ i2 < s.heap.objs.size ∧ l < s.heap.objs.size ∧ t < s.heap.objs.size) (hz0 : IsZip s.heap z TI TO .none) {n : Nat} (hnm : n = min xs.size ys.size) (hn : n ≤ sizeLine)
    (hQ : ∀ h' tk acc c as, (∀ b o, b ≠ z → b ≠ TO → b ≠ i1 → b ≠ i2 → s.heap.get? b = some o → h'.get? b = some o) → h'.get? s.heap.objs.size = some { cls := .type "list", dict := none, data := .seq acc c, slots := #[] } → as.length = n → ZG xs ys (s.heap.objs.size + 1) h' as →
      acc.toList = as.map Value.ref → Q (.ref s.heap.objs.size) { s with heap := h', toks := tk }) :
    wpAny (model prog w) A (call (.type "list") [.ref z]) Q E s := by
  obtain ⟨l1, l2, l3, l4, l5, l6, l7⟩ := lts
  refine callType_codes (Q₁ := fun obj s₁ => obj = .ref s.heap.objs.size ∧ s₁ = { s with heap := s.heap.push { cls := .type "list", data := .seq #[] } }) PySem.F.called_list (PySem.F.typeCall_list_1 _) PySem.F.entry_list_init
    (code_list_new _ ⟨rfl, rfl⟩) fun obj s₁ h₁ => ?_
  obtain ⟨rfl, rfl⟩ := h₁
  generalize hSd : s.heap.objs.size = S at *
  have D : ZAp z TI TO i1 i2 l t S := ⟨sep, hli, hti, lz, tz, ⟨Nat.ne_of_gt l1, Nat.ne_of_gt l2, Nat.ne_of_gt l3, Nat.ne_of_gt l4, Nat.ne_of_gt l5, Nat.ne_of_gt l6, Nat.ne_of_gt l7⟩⟩
  have hS0 : (s.heap.push { cls := .type "list", data := .seq #[] }).get? S = some { cls := .type "list", data := .seq #[] } := by rw [← hSd]; exact Heap.get?_push_size _ rfl
  have szS : (s.heap.push { cls := .type "list", data := .seq #[] }).objs.size = S + 1 := by rw [Heap.size_push, hSd]
  refine ⟨⟨_, hS0, rfl⟩, PySem.F.args_list_init_2 _ _, ?_⟩
  show wpAny _ A.in1.in1 (do let old ← Builtin.List.listItems (.ref S); Builtin.List.listUpdate (.ref S) (fun _ => #[]); letGo old.toList.reverse; Builtin.List.listExtendWith (.ref S) (.ref z) .none) _ _ _
  refine wpAny_bind ?_
  unfold Builtin.List.listItems
  refine wpAny_bind (wpAny_seqItems hS0 rfl (wpAny_pure ?_))
  show wpAny _ A.in1.in1 (updateSeq S (fun _ => #[]) >>= fun _ => letGo (#[] : Array Value).toList.reverse >>= fun _ => Builtin.List.listExtendWith (.ref S) (.ref z) .none) _ _ _
  refine wpAny_bind (wpAny_updateSeq hS0 rfl ?_)
  have hS2 := Heap.get?_update_self (Obj.mapSeq (fun _ => (#[] : Array Value))) hS0 rfl
  refine wpAny_bind (wpAny_letGo ?_)
  have k2 : ∀ b o, s.heap.get? b = some o → ((s.heap.push { cls := .type "list", data := .seq #[] }).update S (Obj.mapSeq (fun _ => (#[] : Array Value)))).get? b = some o := fun b o e =>
    (Heap.get?_update_other _ _ (Ne.symm (by rw [← hSd]; exact Nat.ne_of_lt (Heap.lt_size e)))).trans (Heap.get?_push_of_some _ e)
  have sz2 : ((s.heap.push { cls := .type "list", data := .seq #[] }).update S (Obj.mapSeq (fun _ => (#[] : Array Value)))).objs.size = S + 1 := by rw [Heap.size_update, szS]
  generalize hh2 : (s.heap.push { cls := .type "list", data := .seq #[] }).update S (Obj.mapSeq (fun _ => (#[] : Array Value))) = h2 at hS2 k2 sz2 ⊢
  have key : ∀ (h : Heap) (c₁ tk : Nat), (∀ b o, b ≠ S → h2.get? b = some o → h.get? b = some o) → S + 1 ≤ h.objs.size → h.get? S = some { cls := .type "list", data := .seq #[] c₁ } →
      codeAny (model prog w) A.in1 (.builtin "list.extend.loop" ⟨[.ref S, .ref z, .none], []⟩) (fun r s' => match r with | .ok f => (f = .ret .none ∧ Q (.ref S) s') | .error e => E e s') { s with heap := h, toks := tk } := by
    intro h c₁ tk hk hsz hS₁
    have kk : ∀ b o, s.heap.get? b = some o → h.get? b = some o := fun b o e => hk b o (by rw [← hSd]; exact Nat.ne_of_lt (Heap.lt_size e)) (k2 b o e)
    have st1 : ZSt h z TI TO i1 i2 l t xs ys S 0 := (st S).keep D fun b o _ e => kk b o e
    refine zl_loop (A := A.in1) (s := s) (h₁ := s.heap) (lo := S + 1) (show A.in1.handled = none from hh) D hnm hn .none (Nat.lt_succ_of_lt l1) (Nat.lt_succ_of_lt l3) (Nat.lt_succ_of_lt l4) (Nat.lt_succ_of_lt l5) (Nat.lt_succ_self _) (fun h' tk' acc c as hk' hS' hl hG hacc => ⟨rfl, hQ h' tk' acc c as (fun b o c2 c3 c4 c5 e => hk' b o (by rw [← hSd]; exact Nat.ne_of_lt (Heap.lt_size e)) c2 c3 c4 c5 e) hS' hl hG hacc⟩)
      n 0 h tk c₁ #[] [] (Nat.sub_zero _) (Nat.zero_le _) st1 (fun b o _ _ _ _ _ e => kk b o e) hS₁ rfl rfl ⟨List.Pairwise.nil, (fun _ ha => nomatch ha), (fun j a hj => by simp at hj)⟩ hsz
  have hTy : Shared.TypeIs { s with heap := h2 } (.ref z) "zip" := ⟨_, k2 _ _ hz0, rfl⟩
  unfold Builtin.List.listExtendWith
  refine wpAny_bind (wpAny_typeOf hTy ?_)
  have e1 : Builtin.List.listSameRef (.ref S) (.ref z) = false := by
    have := D.S.1
    simp [Builtin.List.listSameRef, this]
  have e2 : (Value.type "zip" == Value.type "list") = false := by decide
  have e3 : (Value.type "zip" == Value.type "tuple") = false := by decide
  simp only [e1, e2, e3, Bool.or_false, Bool.false_eq_true, if_false]
  refine wpAny_bind (wpAny_pyIter_zip (s := { s with heap := h2 }) (k2 _ _ hz0) ?_)
  refine wpAny_bind (wpAny_holding ?_)
  unfold Builtin.List.listLengthHint
  refine wpAny_bind (wpAny_specialOf hTy zip_no_len ?_)
  show wpAny _ A.in1.in1 (specialOf (Value.ref z) (Str.ofString "__length_hint__") >>= _) _ _ _
  refine wpAny_bind (wpAny_specialOf hTy zip_no_hint ?_)
  refine wpAny_pure ?_
  show wpAny _ A.in1.in1 (rule "list.extend.makes-room" >>= fun _ => Builtin.List.listTouch (.ref S) >>= fun _ =>
    again (.builtin "list.extend.loop" ⟨[.ref S, .ref z, .none], []⟩)) _ _ _
  refine wpAny_bind (wpAny_rule ?_)
  refine wpAny_bind ?_
  show wpAny _ A.in1.in1 (updateSeq S (·.push .none) >>= fun _ => updateSeq S (·.pop)) _ _ _
  refine wpAny_bind (wpAny_updateSeq hS2 rfl ?_)
  have hS3 := Heap.get?_update_self (Obj.mapSeq (·.push Value.none)) hS2 rfl
  refine wpAny_updateSeq (hz := by seq_fits) hS3 rfl ?_
  have hS4 := Heap.get?_update_self (Obj.mapSeq (·.pop)) hS3 rfl
  refine wpAny_pure ⟨plainId_quiet PySem.F.plain_extend_loop _, ?_⟩
  refine codeAny_mono (key _ _ s.toks (fun b o hb e => (Heap.get?_update_other _ _ (Ne.symm hb)).trans ((Heap.get?_update_other _ _ (Ne.symm hb)).trans e)) (by rw [Heap.size_update, Heap.size_update, sz2]; exact Nat.le_refl _) hS4) fun r s' hr => ?_
  cases r with
  | error e => exact hr
  | ok f =>
    obtain ⟨rfl, q⟩ := hr
    exact ⟨rfl, q⟩
end
end Ez
set_option maxRecDepth 100000
set_option maxHeartbeats 4000000
/-! list(zip(a list, a tuple)) as a rule -/
namespace Ez
open PySem PySem.Spec PyProof.Rows L2 LiI
/-- the pairs tracked at their addresses -/
def putP : Hp → List Addr → List (V × V) → Hp
  | H, a :: as, p :: ps => putP (upd H a (.tup [p.1, p.2])) as ps
  | H, _, _ => H
theorem putP_off {b : Addr} : ∀ (as : List Addr) (ps : List (V × V)) (H : Hp), b ∉ as → putP H as ps b = H b
  | [], _, _, _ => rfl
  | _ :: _, [], _, _ => rfl
  | a :: as, p :: ps, H, h => by
    show putP (upd H a (.tup [p.1, p.2])) as ps b = H b
    rw [putP_off as ps _ (fun z => h (List.mem_cons_of_mem _ z)), upd_ne (fun z => h (by rw [z]; exact List.mem_cons_self))]
theorem putP_at : ∀ (as : List Addr) (ps : List (V × V)) (H : Hp), as.length = ps.length → as.Nodup → Paired (fun (t : Addr) (p : V × V) => putP H as ps t = some (.tup [p.1, p.2])) as ps
  | [], [], _, _, _ => .nil
  | [], _ :: _, _, h, _ => by cases h
  | _ :: _, [], _, h, _ => by cases h
  | a :: as, p :: ps, H, h, hn => by
    have hn' := List.nodup_cons.mp hn
    have ih := putP_at as ps (upd H a (.tup [p.1, p.2])) (Nat.succ.inj h) hn'.2
    refine .cons ?_ ih
    show putP (upd H a (.tup [p.1, p.2])) as ps a = some (.tup [p.1, p.2])
    rw [putP_off as ps _ hn'.1, upd_same]
/-- list(zip(x, y)), x a list, y a tuple: new pairs in a new list -/
def rListZip (K : PySem.W.Frag) : List V → Hp → VK → Prop := fun vs H Q => ∃ (a b : Addr) (xs ys : List V), vs = [.ref a, .ref b] ∧ SqL K H a xs ∧ SqT K H b ys ∧
  ∀ (H' : Hp) (p : Addr) (ts : List Addr), (∀ b o, H b = some o → H' b = some o) → H p = none → H' p = some (.lst (ts.map V.ref)) → Paired (fun (t : Addr) (q : V × V) => H' t = some (.tup [q.1, q.2])) ts (xs.zip ys) → Q (.ref p) H'
def tListZip (K : PySem.W.Frag) (ta : TA) : TE := fun σ H Q => ta σ H fun vs H1 => rListZip K vs H1 Q
section
variable {X : Cx}
theorem pairs_laid {pins : List (Addr × Obj)} {σ : L2.St} {H : Hp} {s : Shared} {h' : Heap} {tk : Nat} {xs ys : List V} {its its2 : List Value} {S lo : Addr} {acc : Array Value} {c : Nat} {as : List Addr} (I : Inv X pins σ H s) (rx : Vals xs its) (ry : Vals ys its2) (hz : xs.length ≤ sizeLine)
    (hk : ∀ b o, s.heap.get? b = some o → h'.get? b = some o) (hSs : s.heap.objs.size ≤ S) (hSl : S < lo) (hS : h'.get? S = some { cls := .type "list", dict := none, data := .seq acc c, slots := #[] }) (hl : as.length = min xs.length ys.length) (hG : ZG its.toArray its2.toArray lo h' as) (hacc : acc.toList = as.map Value.ref) :
    ∃ H' : Hp, (∀ b o, H b = some o → H' b = some o) ∧ H S = none ∧ H' S = some (.lst (as.map V.ref)) ∧ Paired (fun (t : Addr) (q : V × V) => H' t = some (.tup [q.1, q.2])) as (xs.zip ys) ∧ Inv X pins σ H' { s with heap := h', toks := tk } := by
  have hSn : S ∉ as := fun z => absurd hSl (Nat.not_lt.mpr (hG.above _ z))
  have nd : as.Nodup := List.Pairwise.imp (fun {a b} (h : a < b) => Nat.ne_of_lt h) hG.rise
  have ab : ∀ t ∈ as, s.heap.objs.size ≤ t := fun t ht => Nat.le_trans (Nat.le_trans hSs (Nat.le_of_lt hSl)) (hG.above t ht)
  have new : ∀ t ∈ as, H t = none := fun t ht => I.hok.fresh (ab t ht)
  have newS : H S = none := I.hok.fresh hSs
  have lz : as.length = (xs.zip ys).length := by rw [List.length_zip]; exact hl
  have atP := putP_at as (xs.zip ys) (upd H S (.lst (as.map V.ref))) lz nd
  have off : ∀ b, b ∉ as → b ≠ S → putP (upd H S (.lst (as.map V.ref))) as (xs.zip ys) b = H b := fun b h1 h2 => by rw [putP_off as _ _ h1, upd_ne h2]
  have low : ∀ b o, s.heap.get? b = some o → b ∉ as ∧ b ≠ S := fun b o e => ⟨fun z => absurd (Heap.lt_size e) (Nat.not_lt.mpr (ab b z)), fun z => absurd (Heap.lt_size e) (Nat.not_lt.mpr (by rw [z]; exact hSs))⟩
  have kp : ∀ b u, H b = some u → (putP (upd H S (.lst (as.map V.ref))) as (xs.zip ys)) b = some u := fun b u e => by
    rw [off b (fun z => by rw [new b z] at e; cases e) (fun z => by rw [z, newS] at e; cases e)]
    exact e
  have eS : putP (upd H S (.lst (as.map V.ref))) as (xs.zip ys) S = some (.lst (as.map V.ref)) := by rw [putP_off as _ _ hSn, upd_same]
  refine ⟨putP (upd H S (.lst (as.map V.ref))) as (xs.zip ys), kp, newS, eS, atP, ?_⟩
  refine I.call' (ch := []) rfl ⟨fun b o q _ _ _ => hk b o q, fun b o q _ _ _ => ⟨o.slots, hk b o q⟩, fun b o q n _ => ?_, fun b o q _ => ⟨o, hk b o q⟩, fun b xs q => kp b _ q, fun b o u q => kp b _ q, fun b ps q => ⟨#[], by rw [kp b _ q]; simp⟩⟩ (fun b u q => ?_) I.bare fun b z => by simp at z
  · obtain ⟨z1, z2⟩ := low b o q
    rw [off b z1 z2]
    exact n
  · by_cases hb : b ∈ as
    · obtain ⟨j, pk, e1, e2, e3⟩ := paired_ix atP hb
      rw [e3] at q
      cases q
      obtain ⟨hj, hk', f3⟩ := hG.pairs j b e1
      have hj1 : j < its.length := by simpa using hj
      have hj2 : j < its2.length := by simpa using hk'
      have g : xs[j]? = some pk.1 ∧ ys[j]? = some pk.2 := List.getElem?_zip_eq_some.mp e2
      obtain ⟨u1, w1, r1⟩ := rx.get g.1
      obtain ⟨u2, w2, r2⟩ := ry.get g.2
      have v1 : its.toArray[j] = u1 := by
        have : its[j]? = some its.toArray[j] := by rw [List.getElem?_eq_getElem hj1] <;> simp
        rw [w1] at this
        exact (Option.some.inj this).symm
      have v2 : its2.toArray[j] = u2 := by
        have : its2[j]? = some its2.toArray[j] := by rw [List.getElem?_eq_getElem hj2] <;> simp
        rw [w2] at this
        exact (Option.some.inj this).symm
      rw [v1, v2] at f3
      exact ⟨by show 2 ≤ sizeLine; decide, [u1, u2], .cons r1 (.cons r2 .nil), ⟨_, f3, rfl, _, rfl⟩⟩
    · by_cases hb2 : b = S
      · rw [hb2] at q ⊢
        rw [eS] at q
        cases q
        refine ⟨by rw [List.length_map]; omega, acc.toList, c, by rw [hacc]; exact LiI.vals_refs as, ?_⟩
        rw [Array.toArray_toList]
        exact hS
      · rw [off b hb hb2] at q
        exact (I.hok b u q).stay (fun d v _ y => hk d v y) (fun d y => kp d _ y) fun d xs y => kp d _ y
theorem pe_listZip {e e2 : Expr} {ta : TA} {p p2 pos pos2 : Pos} (hc : X.calm = true) (hg : Gl X "list") (hm : X.mg "list" = none) (hg2 : Gl X "zip") (hm2 : X.mg "zip" = none) (ha : PA X [e, e2] ta)
    (na : starEach [.Call (.Name "zip" p2) [e, e2] [] pos2] X.env = (false, eval (.Call (.Name "zip" p2) [e, e2] [] pos2) X.env) :: starEach [] X.env := by rfl)
    (hs : starEach [e, e2] X.env = (false, eval e X.env) :: starEach [e2] X.env := by rfl) (hpl : (backTo pos2 (starEach [e2] X.env)).any (·.1) = false := by rfl) :
    PE X (.Call (.Name "list" p) [.Call (.Name "zip" p2) [e, e2] [] pos2] [] pos) (tListZip X.K ta) := by
  refine ⟨fun pins s σ H Q I h => ?_⟩
  refine Call_ (ld_blt I hg hm (show bootBuiltins "list" = some (.type "list") by decide +kernel) ?_)
  refine PyProof.Rows.callWith_type1 (PyProof.Rows.args_cons ?_ na) na rfl
  refine Call_ (ld_blt I hg2 hm2 PyProof.Rows.boot_zip (PyProof.Rows.callWith_type1 (thn (ha.run pos2 pins s σ H _ I h) fun us s1 ⟨vs, H1, I1, r1, q1⟩ => ?_) hs hpl))
  obtain ⟨a, b, xs, ys, ex, hqx, hqy, q⟩ := q1
  subst ex
  cases r1 with
  | cons r rr =>
    cases rr with
    | cons r' rr =>
      cases rr
      cases r
      cases r'
      obtain ⟨its, rv, p1, hz1⟩ := I1.list hqx
      obtain ⟨its2, rv2, p2, hz2⟩ := I1.tuple hqy
      have hal : a < s1.heap.objs.size := p1.lt
      have hbl : b < s1.heap.objs.size := p2.lt
      refine zip_begins2 (begins_list a its.toArray) (begins_tuple b its2.toArray) p1.isList (show s1.heap.IsTuple b its2.toArray from p2) fun h' hz hTI hTO h1 h2 hsz hk => ?_
      have I2 : Inv X pins σ H1 { s1 with heap := h' } := I1.kept (t' := s1.toks) hk
      refine PyProof.Rows.args_nil ?_
      generalize hn0 : s1.heap.objs.size = m at *
      have sep : ZipSep2 (m + 4) (m + 2) (m + 3) m (m + 1) [m, a] [m + 1, b] := by
        have e1 : ∀ k : Nat, a ≠ m + k := fun k => Nat.ne_of_lt (Nat.lt_of_lt_of_le hal (Nat.le_add_right _ _))
        have e2 : ∀ k : Nat, b ≠ m + k := fun k => Nat.ne_of_lt (Nat.lt_of_lt_of_le hbl (Nat.le_add_right _ _))
        have ne : ∀ j k : Nat, j ≠ k → m + j ≠ m + k := fun j k h e => h (Nat.add_left_cancel e)
        have a0 : a ≠ m := e1 0
        have b0 : b ≠ m := e2 0
        have n0 : ∀ j : Nat, j ≠ 0 → m + j ≠ m := fun j h e => ne j 0 h e
        exact ⟨ne 2 4 (by decide), ne 3 4 (by decide), ne 2 3 (by decide), n0 2 (by decide), by simp, by simp [n0 4 (by decide), Ne.symm (e1 4)], by simp [n0 3 (by decide), Ne.symm (e1 3)], ne 2 1 (by decide), by simp, by simp [ne 4 1 (by decide), Ne.symm (e2 4)], by simp [ne 3 1 (by decide), Ne.symm (e2 3)], by simp [Ne.symm (n0 1 (by decide)), Ne.symm b0], by simp [n0 1 (by decide), Ne.symm (e1 1)]⟩
      have hl1 : h'.IsListIter m a 0 := ⟨_, h1, rfl, rfl⟩
      have hl2 : h'.IsTupleIter (m + 1) b 0 := ⟨_, h2, rfl, rfl⟩
      have lt1 : ∀ k : Nat, k < 5 → m + k < h'.objs.size := fun k hk5 => by rw [hsz]; exact Nat.add_lt_add_left hk5 m
      refine zl_call (s := { s1 with heap := h' }) (I.ok.hd hc) sep (Nat.ne_of_lt hal) (Nat.ne_of_lt (Nat.lt_of_lt_of_le hbl (Nat.le_add_right _ _))) ⟨Nat.ne_of_lt (Nat.lt_of_lt_of_le hal (Nat.le_add_right _ _)), Nat.ne_of_lt (Nat.lt_of_lt_of_le hal (Nat.le_add_right _ _)), Nat.ne_of_lt (Nat.lt_of_lt_of_le hal (Nat.le_add_right _ _))⟩
        ⟨Nat.ne_of_lt (Nat.lt_of_lt_of_le hbl (Nat.le_add_right _ _)), Nat.ne_of_lt (Nat.lt_of_lt_of_le hbl (Nat.le_add_right _ _)), Nat.ne_of_lt hbl⟩ (fun S => ⟨hTI, ⟨hl1, p1.isList.at fun o e => hk _ o e⟩, ⟨hl2, (show s1.heap.IsTuple b its2.toArray from p2).at fun o e => hk _ o e⟩, .inl ⟨hz, _, _, hTO⟩⟩)
        ⟨lt1 4 (by decide), lt1 2 (by decide), lt1 3 (by decide), lt1 0 (by decide), lt1 1 (by decide), Nat.lt_trans hal (lt1 0 (by decide)), Nat.lt_trans hbl (lt1 0 (by decide))⟩ hz rfl (by rw [List.size_toArray, List.size_toArray, ← rv.length, ← rv2.length]; omega) fun h2' tk acc c as hk2 hS hl hG hacc => ?_
      have kk : ∀ b' o, s1.heap.get? b' = some o → h2'.get? b' = some o := fun b' o e => by
        have hb' : b' < m := by rw [← hn0]; exact Heap.lt_size e
        have nn : ∀ k : Nat, b' ≠ m + k := fun k => Nat.ne_of_lt (Nat.lt_of_lt_of_le hb' (Nat.le_add_right _ _))
        exact hk2 b' o (nn 4) (nn 3) (nn 0) (nn 1) (hk b' o e)
      have hlen : as.length = min xs.length ys.length := by rw [hl, List.size_toArray, List.size_toArray, ← rv.length, ← rv2.length]
      obtain ⟨H', k1, k2, k3, k4, J⟩ := pairs_laid (tk := tk) (S := h'.objs.size) (lo := h'.objs.size + 1) I1 rv rv2 hz1 kk (by rw [hsz, hn0]; exact Nat.le_add_right _ _) (Nat.lt_succ_self _) hS hlen hG hacc
      exact ⟨.ref _, H', J, rfl, q H' _ as k1 k2 k3 k4⟩
end
end Ez
set_option maxRecDepth 100000
set_option maxHeartbeats 4000000
/-! the data, the text's globals, what evaluates to what -/
namespace Ec
open PySem PySem.Spec PyProof.Rows L2 Evl SlX

/-! ### gates -/
inductive G where
  | inp (h : Nat) | con (c : Nat) | sum (i j : Nat) | mul (i c : Nat) | pro (i j : Nat)
  deriving DecidableEq
def G.word : G → Str
  | .inp _ => "input" | .con _ => "constant" | .sum _ _ => "sum" | .mul _ _ => "times" | .pro _ _ => "product"
def ni (n : Nat) : V := .int (n : Nat)
def G.vs : G → List V
  | .inp h => [.str "input", ni h]
  | .con c => [.str "constant", ni c]
  | .sum i j => [.str "sum", ni i, ni j]
  | .mul i c => [.str "times", ni i, ni c]
  | .pro i j => [.str "product", ni i, ni j]
def G.isInp : G → Bool | .inp _ => true | _ => false
def G.isPro : G → Bool | .pro _ _ => true | _ => false
/-- what may stand at a place -/
def OkG (at_ : Nat) : G → Prop
  | .inp h => 1 ≤ h ∧ h ≤ 9
  | .con c => c ≤ 996
  | .sum i j => i < at_ ∧ j < at_
  | .mul i c => i < at_ ∧ c ≤ 996
  | .pro i j => i < at_ ∧ j < at_
structure OkGs (gs : List G) : Prop where
  ne : 1 ≤ gs.length
  le : gs.length ≤ 60
  ok : ∀ (i : Nat) g, gs[i]? = some g → OkG i g
  inp : gs.countP G.isInp ≤ 8
  pro : gs.countP G.isPro ≤ 12
/-- an output: its gate, its houses -/
structure OkO (many : Nat) (o : Nat × List Nat) : Prop where
  g : o.1 < many
  ne : o.2 ≠ []
  le : o.2.length ≤ 9
  ran : ∀ h ∈ o.2, 1 ≤ h ∧ h ≤ 9
  asc : o.2.Pairwise (· < ·)
structure OkOs (many : Nat) (os : List (Nat × List Nat)) : Prop where
  ne : 1 ≤ os.length
  le : os.length ≤ 6
  ok : ∀ o ∈ os, OkO many o
def nis (ns : List Nat) : List V := ns.map ni
def GatesAt (H : Hp) (a : Addr) (gs : List G) : Prop := ∃ ps : List Addr, H a = some (.tup (ps.map V.ref)) ∧ ps.length = gs.length ∧ ∀ (i : Nat) p g, ps[i]? = some p → gs[i]? = some g → H p = some (.tup g.vs)
def OutAt (H : Hp) (p : Addr) (o : Nat × List Nat) : Prop := ∃ b, H p = some (.tup [ni o.1, .ref b]) ∧ H b = some (.tup (nis o.2))
def OutsAt (H : Hp) (a : Addr) (os : List (Nat × List Nat)) : Prop := ∃ ps : List Addr, H a = some (.tup (ps.map V.ref)) ∧ ps.length = os.length ∧ ∀ (i : Nat) p o, ps[i]? = some p → os[i]? = some o → OutAt H p o
def CirAt (C : Addr) (H : Hp) (a : Addr) (gs : List G) (os : List (Nat × List Nat)) : Prop := ∃ dx ga oa, Slt H a C dx [some (.ref ga), some (.ref oa)] ∧ GatesAt H ga gs ∧ OutsAt H oa os
section
variable {H H' : Hp} {a : Addr} {gs : List G} {os : List (Nat × List Nat)}
theorem GatesAt.ex (h : GatesAt H a gs) (e : Ex H H') : GatesAt H' a gs := let ⟨ps, h1, h2, h3⟩ := h; ⟨ps, e _ _ h1, h2, fun i p g x y => e _ _ (h3 i p g x y)⟩
theorem OutAt.ex {o : Nat × List Nat} (h : OutAt H a o) (e : Ex H H') : OutAt H' a o := let ⟨b, h1, h2⟩ := h; ⟨b, e _ _ h1, e _ _ h2⟩
theorem OutsAt.ex (h : OutsAt H a os) (e : Ex H H') : OutsAt H' a os := let ⟨ps, h1, h2, h3⟩ := h; ⟨ps, e _ _ h1, h2, fun i p g x y => (h3 i p g x y).ex e⟩
theorem slt_ex {C dx : Addr} {vs : List (Option V)} (h : Slt H a C dx vs) (e : Ex H H') : Slt H' a C dx vs := by
  rcases h with ⟨h1, h2⟩ | ⟨h1, h2⟩
  · exact .inl ⟨e _ _ h1, h2⟩
  · exact .inr ⟨e _ _ h1, e _ _ h2⟩
theorem CirAt.ex {C : Addr} (h : CirAt C H a gs os) (e : Ex H H') : CirAt C H' a gs os := let ⟨dx, ga, oa, h1, h2, h3⟩ := h; ⟨dx, ga, oa, slt_ex h1 e, h2.ex e, h3.ex e⟩
theorem GatesAt.at_ (h : GatesAt H a gs) : ∃ vs : List V, H a = some (.tup vs) ∧ vs.length = gs.length ∧ ∀ (i : Nat) v, vs[i]? = some v → ∃ p g, v = .ref p ∧ gs[i]? = some g ∧ H p = some (.tup g.vs) := by
  obtain ⟨ps, h1, h2, h3⟩ := h
  refine ⟨ps.map V.ref, h1, by rw [List.length_map]; exact h2, fun i v hv => ?_⟩
  rw [List.getElem?_map] at hv
  cases e : ps[i]? with
  | none => rw [e] at hv; cases hv
  | some p =>
    rw [e] at hv
    have hi : i < gs.length := by rw [← h2]; exact (List.getElem?_eq_some_iff.mp e).1
    exact ⟨p, gs[i], (Option.some.inj hv).symm, List.getElem?_eq_getElem hi, h3 i p _ e (List.getElem?_eq_getElem hi)⟩
theorem OutsAt.at_ (h : OutsAt H a os) : ∃ vs : List V, H a = some (.tup vs) ∧ vs.length = os.length ∧ ∀ (i : Nat) v, vs[i]? = some v → ∃ p o, v = .ref p ∧ os[i]? = some o ∧ OutAt H p o := by
  obtain ⟨ps, h1, h2, h3⟩ := h
  refine ⟨ps.map V.ref, h1, by rw [List.length_map]; exact h2, fun i v hv => ?_⟩
  rw [List.getElem?_map] at hv
  cases e : ps[i]? with
  | none => rw [e] at hv; cases hv
  | some p =>
    rw [e] at hv
    have hi : i < os.length := by rw [← h2]; exact (List.getElem?_eq_some_iff.mp e).1
    exact ⟨p, os[i], (Option.some.inj hv).symm, List.getElem?_eq_getElem hi, h3 i p _ e (List.getElem?_eq_getElem hi)⟩
end

/-! ### the text's globals -/
structure Glo (mg : Str → Option Value) : Prop where
  len : mg "len" = none
  tuple : mg "tuple" = none
  list : mg "list" = none
  int : mg "int" = none
  bool : mg "bool" = none
  str : mg "str" = none
  isinstance : mg "isinstance" = none
  all : mg "all" = none
  enumerate : mg "enumerate" = none
  range : mg "range" = none
  max : mg "max" = none
  min : mg "min" = none
  abs : mg "abs" = none
  zip : mg "zip" = none
  sorted : mg "sorted" = none
  dict : mg "dict" = none
  cLEAST_FIELD : ∃ t, mg "LEAST_FIELD" = some (.int 5 t)
  cMAX_FIELD : ∃ t, mg "MAX_FIELD" = some (.int 997 t)
  cMOST_PART : ∃ t, mg "MOST_PART" = some (.int 32 t)
  cMAX_GATES : ∃ t, mg "MAX_GATES" = some (.int 60 t)
  cMAX_PRODUCTS : ∃ t, mg "MAX_PRODUCTS" = some (.int 12 t)
  cMAX_INPUTS : ∃ t, mg "MAX_INPUTS" = some (.int 8 t)
  cMAX_OUTPUTS : ∃ t, mg "MAX_OUTPUTS" = some (.int 6 t)
  cMOST_NUMBER : ∃ t, mg "MOST_NUMBER" = some (.int 996 t)
  cMOST_HOUSE : ∃ t, mg "MOST_HOUSE" = some (.int 9 t)
  cINPUT : ∃ t, mg "INPUT" = some (.str "input" t)
  cCONSTANT : ∃ t, mg "CONSTANT" = some (.str "constant" t)
  cSUM : ∃ t, mg "SUM" = some (.str "sum" t)
  cMULTIPLE : ∃ t, mg "MULTIPLE" = some (.str "times" t)
  cPRODUCT : ∃ t, mg "PRODUCT" = some (.str "product" t)

theorem pe_ty {X : Cx} (n : String) {x : Str} {pos : Pos} (hg : Gl X x) (hm : X.mg x = none) (hv : bootBuiltins x = some (.type n)) (hn : x ≠ "__name__" := by decide) (hd : (x == ("__debug__" : Str)) = false := by decide) : PE X (.Name x pos) (tC (.ty n)) :=
  pe_bltn (v := .ty n) (u := .type n) hg hm hv rfl hn hd
/-! ### rules whose reading names the written part, within a comprehension's block -/
section
variable (K : PySem.W.Frag) {X : Cx}
theorem ixTK (h : X.K = K) : IxR X (rIxT K) := by subst h; exact ix_tup
theorem ixLK (h : X.K = K) : IxR X (rIxL K) := by subst h; exact ix_list
theorem opEqDK (h : X.K = K) (hu : X.A.units + 64 < cLine) : OpR X (compareOp .Eq) (rEqD K) := by subst h; exact op_eqD hu
theorem callTupK (h : X.K = K) : CallR X (.type "tuple") (fun xs H Q => ∃ p ys, xs = [.ref p] ∧ ((SqL K H p ys ∧ ∀ l, H l = none → Q (.ref l) (upd H l (.tup ys))) ∨ (SqT K H p ys ∧ Q (.ref p) H))) := by subst h; exact call_tuple_of
theorem pgTupK (n : Nat) {es : List Expr} {k : Nat} {t : TGs} {pos : Pos} (h : X.K = K) (hc : X.calm = true) (hP : PGs X es t) (hn : (assignEach es X.env).length = n) (hst : (assignEach es X.env).findIdx? (·.1) = none := by rfl) : PG X (.Tuple es k pos) (gTup K n t) := by subst h; exact pg_tup hc hP hn hst
theorem piListK {tg l : Expr} {tl : TE} (h : X.K = K) (hl : PE X l tl) : PI X tg l (iList K tl) := by subst h; exact pi_list hl
theorem piTupK {tg l : Expr} {tl : TE} (h : X.K = K) (hl : PE X l tl) : PI X tg l (iTup K tl) := by subst h; exact pi_tup hl
end
/-! ### evaluations -/
def EvP (te : TE) (σ : L2.St) (H : Hp) (P : V → Hp → Prop) : Prop := ∀ H1, Ex H H1 → ∀ Q : VK, (∀ v H2, Ex H1 H2 → P v H2 → Q v H2) → te σ H1 Q
section
variable {K : PySem.W.Frag} {σ : L2.St} {H H' : Hp} {ta tb tc te : TE} {t u : TT} {x y z v : V} {r r' : R2}
theorem EvU.mono {xs : List V} (e : Ex H H') (h : EvU te σ H xs) : EvU te σ H' xs := fun H1 a Q q => h H1 (e.trans a) Q q
theorem evp_of {P : V → Hp → Prop} (h : Ev te σ H v) (p : ∀ H2, Ex H H2 → P v H2) : EvP te σ H P := fun H1 e Q q => h H1 e Q fun H2 e2 => q v H2 e2 (p H2 (e.trans e2))
theorem ev_chain {a b : Bool} (ha : Ev ta σ H x) (hb : Ev tb σ H y) (hc : Ev tc σ H z) (h1 : RV r x y H (.bl a)) (h2 : a = true → RV r' y z H (.bl b)) : Ev (tChain r r' ta tb tc) σ H (.bl (a && b)) := fun H1 e Q q =>
  ha H1 e _ fun H2 e2 => hb H2 (e.trans e2) _ fun H3 e3 => h1 H3 ((e.trans e2).trans e3) _ fun H4 e4 => ⟨a, rfl, by
    have e14 := (e2.trans e3).trans e4
    cases a with
    | true =>
      rw [if_pos rfl]
      exact hc H4 (e.trans e14) _ fun H5 e5 => h2 rfl H5 ((e.trans e14).trans e5) _ fun H6 e6 => q H6 ((e14.trans e5).trans e6)
    | false =>
      rw [if_neg Bool.false_ne_true]
      exact q H4 e14⟩
theorem ev_lenT {p : Addr} {xs : List V} (ha : Ev ta σ H (.ref p)) (h : SqT K H p xs) : Ev (tCB (rLenS K) (tCons ta tNil)) σ H (.int (xs.length : Int)) := fun H1 e Q q =>
  ha H1 e _ fun H2 e2 => ⟨p, xs, rfl, Or.inr (ex_t (e.trans e2) h), q H2 e2⟩
/-- isinstance -/
theorem ev_isi {x c : V} {t u : Value} {b : Bool} (ha : Ev ta σ H x) (hb : Ev tb σ H c) (k : ClsV c u) (ty : ∀ H1, Ex H H1 → TyX K H1 x t) (e : PySem.W.kitOne K t u = some b) : Ev (tCB (rIsi K) (tCons ta (tCons tb tNil))) σ H (.bl b) :=
  ev_cb (ea_cons ha (ea_cons hb ea_nil)) fun H1 e1 Q q => ⟨x, c, t, u, b, rfl, k, ty H1 e1, e, q H1 (Ex.refl H1)⟩
theorem ty_int (i : Int) (H1 : Hp) : TyX K H1 (.int i) (.type "int") := .base (.int i)
theorem ty_str (i : Str) (H1 : Hp) : TyX K H1 (.str i) (.type "str") := .base (.str i)
theorem ty_tup {p : Addr} {xs : List V} (h : H p = some (.tup xs)) (H1 : Hp) (e : Ex H H1) : TyX K H1 (.ref p) (.type "tuple") := .base (.tup (e _ _ h))
theorem ev_isi_int {i : Int} {n : String} {b : Bool} (ha : Ev ta σ H (.int i)) (e : kitB "int" n = some b) : Ev (tCB (rIsi K) (tCons ta (tCons (tC (.ty n)) tNil))) σ H (.bl b) := ev_isi ha ev_c (.ty n) (fun H1 _ => ty_int i H1) (kit_ty e)
theorem ev_isi_str {i : Str} {n : String} {b : Bool} (ha : Ev ta σ H (.str i)) (e : kitB "str" n = some b) : Ev (tCB (rIsi K) (tCons ta (tCons (tC (.ty n)) tNil))) σ H (.bl b) := ev_isi ha ev_c (.ty n) (fun H1 _ => ty_str i H1) (kit_ty e)
theorem ev_isi_tup {p : Addr} {xs : List V} {n : String} {b : Bool} (ha : Ev ta σ H (.ref p)) (h : H p = some (.tup xs)) (e : kitB "tuple" n = some b) : Ev (tCB (rIsi K) (tCons ta (tCons (tC (.ty n)) tNil))) σ H (.bl b) := ev_isi ha ev_c (.ty n) (fun H1 e1 => ty_tup h H1 e1) (kit_ty e)
theorem kb_int_int : kitB "int" "int" = some true := by decide +kernel
theorem kb_int_bool : kitB "int" "bool" = some false := by decide +kernel
theorem kb_tup : kitB "tuple" "tuple" = some true := by decide +kernel
theorem kb_str : kitB "str" "str" = some true := by decide +kernel
/-- all([..]) -/
theorem ev_allN {bs : List Bool} (ha : EvL ta σ H (bs.map V.bl)) : Ev (tCB (rAll K) (tCons ta tNil)) σ H (.bl (bs.all id)) := fun H1 e Q q =>
  ha H1 e _ fun p H2 _ e2 h2 => ⟨p, bs, rfl, sq_of h2, q H2 e2⟩
def rTupOf (K : PySem.W.Frag) : List V → Hp → VK → Prop := fun xs H Q => ∃ p ys, xs = [.ref p] ∧ ((SqL K H p ys ∧ ∀ l, H l = none → Q (.ref l) (upd H l (.tup ys))) ∨ (SqT K H p ys ∧ Q (.ref p) H))
theorem eu_tupN {xs : List V} (ha : EvL ta σ H xs) : EvU (tCB (rTupOf K) (tCons ta tNil)) σ H xs := fun H1 e Q q =>
  ha H1 e _ fun p H2 hp e2 h2 => ⟨p, xs, rfl, .inl ⟨sq_of h2, fun l hl => q l _ (fresh_back e2 hl) (e2.trans (Ex.new hl)) upd_same⟩⟩
theorem eu_tupL {p : Addr} {xs : List V} (ha : Ev ta σ H (.ref p)) (h : SqL K H p xs) : EvU (tCB (rTupOf K) (tCons ta tNil)) σ H xs := fun H1 e Q q =>
  ha H1 e _ fun H2 e2 => ⟨p, xs, rfl, .inl ⟨ex_l (e.trans e2) h, fun l hl => q l _ (fresh_back e2 hl) (e2.trans (Ex.new hl)) upd_same⟩⟩
/-- e.f of a slotted instance -/
theorem ev_sl {f : Str} {a C dx p : Addr} {vs : List (Option V)} {i : Nat} (ha : Ev ta σ H (.ref a)) (hs : Slt H a C dx vs) (c : SCls K C) (s : Slot1 K C f p i) (hv : vs[i]? = some (some v)) : Ev (tSl K ta f) σ H v := fun H1 e Q q =>
  ha H1 e _ fun H2 e2 => ⟨a, C, dx, p, vs, i, v, rfl, slt_ex hs (e.trans e2), c, s, hv, q H2 e2⟩
/-- == of data -/
theorem dp_ex {d : PyData} {x : V} (h : Dp K H x d) (e : Ex H H') : Dp K H' x d := by
  have key : (∀ (d : PyData) (x : V), Dp K H x d → Dp K H' x d) := fun d x h => by
    refine Dp.rec (motive_1 := fun x d _ => Dp K H' x d) (motive_2 := fun xs ds _ => DpAll K H' xs ds) ?_ ?_ ?_ ?_ ?_ ?_ ?_ ?_ h
    · exact .non
    · exact fun b => .bl b
    · exact fun i => .int i
    · exact fun x => .str x
    · exact fun h1 _ ih => .lst (ex_l e h1) ih
    · exact fun h1 _ ih => .tup (ex_t e h1) ih
    · exact .nil
    · exact fun _ _ h1 h2 => .cons h1 h2
  exact key d x h
theorem rv_eqD {d e : PyData} (hx : Dp K H x d) (hy : Dp K H y e) (sx : SeqAt.shaped d = true) (sy : SeqAt.shaped e = true) : RV (rEqD K) x y H (.bl (PyData.eqv d e)) := fun H1 e1 Q q =>
  ⟨d, e, dp_ex hx e1, dp_ex hy e1, sx, sy, q H1 (Ex.refl H1)⟩
theorem rv_neD {d e : PyData} (hx : Dp K H x d) (hy : Dp K H y e) (sx : SeqAt.shaped d = true) (sy : SeqAt.shaped e = true) : RV (rNeD K) x y H (.bl (!PyData.eqv d e)) := fun H1 e1 Q q =>
  ⟨d, e, dp_ex hx e1, dp_ex hy e1, sx, sy, q H1 (Ex.refl H1)⟩
/-- a call of a def that hands back z -/
theorem ev_cal {sp : Sp} {vs : List V} {ta : TA} (h : EvA ta σ H vs) (hs : SpV sp vs H z) : Ev (tCall sp [] E0 ta) σ H z := ev_call h (by rw [List.append_nil]; exact hs)
theorem SpV.mk {sp : Sp} {vs : List V} (h : ∀ H1, Ex H H1 → ∀ Q : VK, RetV z H1 Q → ∀ E, sp vs H1 Q E) : SpV sp vs H z := fun H1 e Q q E => h H1 e Q q E

/-! ### comprehensions -/
/-- over any walk whose turns are told: the slots at turn i are st i -/
theorem el_lcW {J : It} {n : Nat} {Gd : Hp → Prop} {Y : Nat → Hp → V → Hp → Prop} {wi : TI} {g : TG} {vs : List Nat} (st : Nat → L2.St) (f : Nat → Bool) (v : Nat → V) (w : Walk J n Gd Y) (hz : n ≤ 40000)
    (hi : ∀ H0, Ex H H0 → ∀ R : It → Hp → Prop, (∀ H1, Ex H0 H1 → R J H1) → wi σ H0 R) (hG : ∀ H1, Ex H H1 → Gd H1)
    (hs : ∀ i x H1 H2 (R : L2.St → Hp → Prop), i < n → Ex H H1 → Y i H1 x H2 → Ex H1 H2 ∧ (R (st i) H2 → g x (wipe σ vs) H2 R)) (hw : ∀ i, i < n → wipe (st i) vs = wipe σ vs)
    (ht : ∀ i H1, i < n → Ex H H1 → EvT t (st i) H1 (f i)) (he : ∀ i H1, i < n → Ex H H1 → f i = true → Ev te (st i) H1 (v i)) : EvL (tLc wi g t te vs) σ H (given n f v) := fun H0 e Q q => by
  refine hi H0 e _ fun H1 e1 D hD => ?_
  refine lc_it w (Cw H1 f v D) ⟨hD, Ex.new hD, upd_same⟩ (fun i H2 _ p => hG H2 ((e.trans e1).trans p.2.1)) (fun i x H2 H3 hi2 p y => ?_) (fun H2 p => q D H2 (fresh_back e1 p.1) (e1.trans p.2.1) p.2.2)
  obtain ⟨e3, k⟩ := hs i x H2 H3 _ hi2 ((e.trans e1).trans p.2.1) y
  exact k ⟨hw i hi2, cw_turn ⟨p.1, p.2.1.trans e3, e3 _ _ p.2.2⟩ (by omega) (ht i H1 hi2 (e.trans e1)) fun hf => he i H1 hi2 (e.trans e1) hf⟩
section
variable {a b : Addr} {xs ys : List V} {vs : List Nat} {ta : TA}
/-- .. over a tuple -/
theorem el_lcT {tl : TE} {j : Nat} (f : Nat → Bool) (v : Nat → V) (h : Ev tl σ H (.ref a)) (hx : SqT K H a xs) (hz : xs.length ≤ 40000) (hw : ∀ x, wipe ((wipe σ vs).set j (some x)) vs = wipe σ vs)
    (ht : ∀ (i : Nat) (x : V) H1, Ex H H1 → xs[i]? = some x → EvT t ((wipe σ vs).set j (some x)) H1 (f i)) (he : ∀ (i : Nat) (x : V) H1, Ex H H1 → xs[i]? = some x → f i = true → Ev te ((wipe σ vs).set j (some x)) H1 (v i)) :
    EvL (tLc (iTup K tl) (gName j) t te vs) σ H (given xs.length f v) := by
  have at_ : ∀ i, i < xs.length → xs[i]? = some (xs.getD i .non) := fun i hi => by rw [List.getD_eq_getElem?_getD, List.getElem?_eq_getElem hi] <;> rfl
  refine el_lcW (Gd := fun H => SqT K H a xs) (fun i => (wipe σ vs).set j (some (xs.getD i .non))) f v (walk_tup (K := K) (a := a)) hz (fun H0 e R q => h H0 e _ fun H1 e1 => ⟨a, rfl, ⟨xs, ex_t (e.trans e1) hx⟩, q H1 e1⟩) (fun H1 e => ex_t e hx) ?_ (fun i _ => hw _) (fun i H1 hi e => ht i _ H1 e (at_ i hi)) (fun i H1 hi e hf => he i _ H1 e (at_ i hi) hf)
  rintro i x H1 H2 R hi e ⟨rfl, hx'⟩
  rw [at_ i hi] at hx'
  cases hx'
  exact ⟨Ex.refl _, fun r => r⟩
/-- .. over enumerate(tuple) -/
theorem el_lcE {j1 j2 : Nat} (f : Nat → Bool) (v : Nat → V) (h : EvA ta σ H [.ref a]) (hx : SqT K H a xs) (hz : xs.length ≤ 40000) (hw : ∀ x y, wipe (((wipe σ vs).set j1 (some x)).set j2 (some y)) vs = wipe σ vs)
    (ht : ∀ (i : Nat) (x : V) H1, Ex H H1 → xs[i]? = some x → EvT t (((wipe σ vs).set j1 (some (ni i))).set j2 (some x)) H1 (f i)) (he : ∀ (i : Nat) (x : V) H1, Ex H H1 → xs[i]? = some x → f i = true → Ev te (((wipe σ vs).set j1 (some (ni i))).set j2 (some x)) H1 (v i)) :
    EvL (tLc (iEnumT K ta) (gTup K 2 (gCons (gName j1) (gCons (gName j2) gNil))) t te vs) σ H (given xs.length f v) := by
  have at_ : ∀ i, i < xs.length → xs[i]? = some (xs.getD i .non) := fun i hi => by rw [List.getD_eq_getElem?_getD, List.getElem?_eq_getElem hi] <;> rfl
  refine el_lcW (Gd := fun H => SqT K H a xs) (fun i => ((wipe σ vs).set j1 (some (ni i))).set j2 (some (xs.getD i .non))) f v (walk_enumT (K := K) (a := a)) hz (fun H0 e R q => h H0 e _ fun H1 e1 => ⟨a, xs, rfl, ex_t (e.trans e1) hx, q H1 e1⟩) (fun H1 e => ex_t e hx) ?_ (fun i _ => hw _ _) (fun i H1 hi e => ht i _ H1 e (at_ i hi)) (fun i H1 hi e hf => he i _ H1 e (at_ i hi) hf)
  rintro i x H1 H2 R hi e ⟨T, x1, x2, rfl, hT, rfl, hx1, hx2⟩
  cases hx1
  have hx2 : xs[i]? = some x2 := hx2
  rw [at_ i hi] at hx2
  cases hx2
  exact ⟨Ex.new hT, fun r => ⟨T, _, rfl, st_of upd_same, rfl, _, _, rfl, _, _, rfl, rfl, r⟩⟩
/-- .. over enumerate(list) -/
theorem el_lcEL {j1 j2 : Nat} (f : Nat → Bool) (v : Nat → V) (h : EvA ta σ H [.ref a]) (hx : SqL K H a xs) (hz : xs.length ≤ 40000) (hw : ∀ x y, wipe (((wipe σ vs).set j1 (some x)).set j2 (some y)) vs = wipe σ vs)
    (ht : ∀ (i : Nat) (x : V) H1, Ex H H1 → xs[i]? = some x → EvT t (((wipe σ vs).set j1 (some (ni i))).set j2 (some x)) H1 (f i)) (he : ∀ (i : Nat) (x : V) H1, Ex H H1 → xs[i]? = some x → f i = true → Ev te (((wipe σ vs).set j1 (some (ni i))).set j2 (some x)) H1 (v i)) :
    EvL (tLc (iEnum K ta) (gTup K 2 (gCons (gName j1) (gCons (gName j2) gNil))) t te vs) σ H (given xs.length f v) := by
  have at_ : ∀ i, i < xs.length → xs[i]? = some (xs.getD i .non) := fun i hi => by rw [List.getD_eq_getElem?_getD, List.getElem?_eq_getElem hi] <;> rfl
  refine el_lcW (Gd := fun H => SqL K H a xs) (fun i => ((wipe σ vs).set j1 (some (ni i))).set j2 (some (xs.getD i .non))) f v (walk_enum (K := K) (a := a)) hz (fun H0 e R q => h H0 e _ fun H1 e1 => ⟨a, xs, rfl, ex_l (e.trans e1) hx, q H1 e1⟩) (fun H1 e => ex_l e hx) ?_ (fun i _ => hw _ _) (fun i H1 hi e => ht i _ H1 e (at_ i hi)) (fun i H1 hi e hf => he i _ H1 e (at_ i hi) hf)
  rintro i x H1 H2 R hi e ⟨T, x1, x2, rfl, hT, rfl, hx1, hx2⟩
  cases hx1
  have hx2 : xs[i]? = some x2 := hx2
  rw [at_ i hi] at hx2
  cases hx2
  exact ⟨Ex.new hT, fun r => ⟨T, _, rfl, st_of upd_same, rfl, _, _, rfl, _, _, rfl, rfl, r⟩⟩
/-- .. over zip of two tuples -/
theorem el_lcZ {j1 j2 n : Nat} (f : Nat → Bool) (v : Nat → V) (h : ∀ H0, Ex H H0 → ∀ Q : List V → Hp → Prop, (∀ b H1, Ex H0 H1 → SqT K H1 b ys → Q [.ref a, .ref b] H1) → ta σ H0 Q) (hx : SqT K H a xs) (hn : n = min xs.length ys.length) (hz : n ≤ 40000) (hw : ∀ x y, wipe (((wipe σ vs).set j1 (some x)).set j2 (some y)) vs = wipe σ vs)
    (ht : ∀ (i : Nat) (x y : V) H1, Ex H H1 → xs[i]? = some x → ys[i]? = some y → EvT t (((wipe σ vs).set j1 (some x)).set j2 (some y)) H1 (f i)) (he : ∀ (i : Nat) (x y : V) H1, Ex H H1 → xs[i]? = some x → ys[i]? = some y → f i = true → Ev te (((wipe σ vs).set j1 (some x)).set j2 (some y)) H1 (v i)) :
    EvL (tLc (RZ.iZipA K ta) (gTup K 2 (gCons (gName j1) (gCons (gName j2) gNil))) t te vs) σ H (given n f v) := fun H0 e Q q => by
  have at1 : ∀ i, i < n → xs[i]? = some (xs.getD i .non) := fun i hi => by rw [List.getD_eq_getElem?_getD, List.getElem?_eq_getElem (by omega)] <;> rfl
  have at2 : ∀ i, i < n → ys[i]? = some (ys.getD i .non) := fun i hi => by rw [List.getD_eq_getElem?_getD, List.getElem?_eq_getElem (by omega)] <;> rfl
  refine h H0 e _ fun b H1 e1 hy => ⟨a, b, xs, ys, rfl, .inr ⟨ex_t (e.trans e1) hx, hy, ?_⟩⟩
  refine el_lcW (t := t) (te := te) (H := H1) (σ := σ) (wi := fun _ H0 R => R (RZ.ItzT K a b) H0) (g := gTup K 2 (gCons (gName j1) (gCons (gName j2) gNil))) (Gd := fun H => SqT K H a xs ∧ SqT K H b ys) (fun i => ((wipe σ vs).set j1 (some (xs.getD i .non))).set j2 (some (ys.getD i .non))) f v (walk_zipT (K := K) (a := a) (b := b) hn) hz (fun H0 e R q => q H0 (Ex.refl H0)) (fun H2 e2 => ⟨ex_t ((e.trans e1).trans e2) hx, ex_t e2 hy⟩) ?_ (fun i _ => hw _ _)
    (fun i H2 hi e2 => ht i _ _ H2 ((e.trans e1).trans e2) (at1 i hi) (at2 i hi)) (fun i H2 hi e2 hf => he i _ _ H2 ((e.trans e1).trans e2) (at1 i hi) (at2 i hi) hf) H1 (Ex.refl H1) Q fun p H2 hp e2 h2 => q p H2 (fresh_back e1 hp) (e1.trans e2) h2
  rintro i x H1 H2 R hi e ⟨T, x1, x2, rfl, hT, rfl, hx1, hx2⟩
  have hx1 : xs[i]? = some x1 := hx1
  have hx2 : ys[i]? = some x2 := hx2
  rw [at1 i hi] at hx1
  cases hx1
  rw [at2 i hi] at hx2
  cases hx2
  exact ⟨Ex.new hT, fun r => ⟨T, _, rfl, st_of upd_same, rfl, _, _, rfl, _, _, rfl, rfl, r⟩⟩
/-- .. over range(lo, hi) -/
theorem el_lcR2 {j : Nat} {lo hi : Int} {n : Nat} (f : Nat → Bool) (v : Nat → V) (h : EvA ta σ H [.int lo, .int hi]) (hb : -1000 ≤ lo ∧ lo ≤ 40000 ∧ -1000 ≤ hi ∧ hi ≤ 40000) (hn : n = (hi - lo).toNat) (hw : ∀ x, wipe ((wipe σ vs).set j (some x)) vs = wipe σ vs)
    (ht : ∀ (i : Nat) H1, Ex H H1 → i < n → EvT t ((wipe σ vs).set j (some (.int (lo + i)))) H1 (f i)) (he : ∀ (i : Nat) H1, Ex H H1 → i < n → f i = true → Ev te ((wipe σ vs).set j (some (.int (lo + i)))) H1 (v i)) :
    EvL (tLc (iRng2 ta) (gName j) t te vs) σ H (given n f v) := by
  subst hn
  have eq : EvL (tLc (iRng2 ta) (gName j) t te vs) σ H (given (hi - lo).toNat f v) ↔ EvL (tLc (iRng2 ta) (gName j) t te vs) σ H (given (hi - lo).toNat f v) := Iff.rfl
  intro H0 e Q q
  refine h H0 e _ fun H1 e1 => ⟨lo, hi, rfl, ⟨by omega, by omega, by omega, by omega⟩, fun D hD => ?_⟩
  refine lc_range (lo := lo) (n := (hi - lo).toNat) (Cw H1 f v D) ⟨hD, Ex.new hD, upd_same⟩ (fun i H2 hi2 p => ⟨hw _, ?_⟩) (fun H2 p => q D H2 (fresh_back e1 p.1) (e1.trans p.2.1) p.2.2)
  exact cw_turn p (by omega) (ht i H1 (e.trans e1) hi2) fun hf => he i H1 (e.trans e1) hi2 hf
end
theorem et_yes : EvT tYes σ H true := fun H1 _ _ q => q H1 (Ex.refl H1)
/-- all turns give -/
theorem given_all (n : Nat) (v : Nat → V) : given n (fun _ => true) v = (List.range n).map v := by
  unfold given
  rw [List.filter_eq_self.mpr (fun _ _ => rfl)]
theorem el_is {xs ys : List V} (h : EvL te σ H xs) (e : xs = ys) : EvL te σ H ys := by rw [← e]; exact h
theorem eu_is {xs ys : List V} (h : EvU te σ H xs) (e : xs = ys) : EvU te σ H ys := by rw [← e]; exact h
/-- all([..]), each turn gives True -/
theorem ev_allR {n : Nat} {b : Nat → Bool} (ha : EvL ta σ H (given n (fun _ => true) fun i => .bl (b i))) (hb : ∀ i, i < n → b i = true) : Ev (tCB (rAll K) (tCons ta tNil)) σ H (.bl true) := by
  have e : given n (fun _ => true) (fun i => V.bl (b i)) = ((List.range n).map b).map V.bl := by rw [given_all, List.map_map]; rfl
  have q := ev_allN (K := K) (el_is ha e)
  have e2 : ((List.range n).map b).all id = true := by
    rw [List.all_map]
    exact List.all_eq_true.mpr fun i hi => hb i (List.mem_range.mp hi)
  rw [e2] at q
  exact q
theorem ev_min2 {i j : Int} (ha : Ev ta σ H (.int i)) (hb : Ev tb σ H (.int j)) : Ev (tCB (fun xs H Q => ∃ i j, xs = [.int i, .int j] ∧ Q (.int (if j < i then j else i)) H) (tCons ta (tCons tb tNil))) σ H (.int (if j < i then j else i)) := fun H1 e Q q =>
  ha H1 e _ fun H2 e2 => hb H2 (e.trans e2) _ fun H3 e3 => ⟨i, j, rfl, q H3 (e2.trans e3)⟩
theorem nis_at {ns : List Nat} {i : Nat} {x : V} (h : (nis ns)[i]? = some x) : ∃ n, ns[i]? = some n ∧ x = ni n := by
  unfold nis at h
  rw [List.getElem?_map] at h
  cases e : ns[i]? with
  | none => rw [e] at h; cases h
  | some n => rw [e] at h; exact ⟨n, rfl, (Option.some.inj h).symm⟩
theorem nis_len (ns : List Nat) : (nis ns).length = ns.length := List.length_map _
/-! ### match -/
theorem s_match {D : Ends} {tm : TM} (h : Ev te σ H v) (k : ∀ H1, Ex H H1 → tm v D σ H1) : tMatch te tm D σ H := h H (Ex.refl H) _ k
theorem m_yes {D : Ends} {z : Str} {tb : TS} {tr : TM} (h : tb D σ H) : mStr z tb tr (.str z) D σ H := ⟨z, rfl, by rw [if_pos (decide_eq_true rfl)]; exact h⟩
theorem m_no {D : Ends} {w z : Str} {tb : TS} {tr : TM} (hn : decide (w = z) = false) (h : tr (.str w) D σ H) : mStr z tb tr (.str w) D σ H := ⟨w, rfl, by rw [hn, if_neg Bool.false_ne_true]; exact h⟩
end
end Ec
set_option maxRecDepth 100000
set_option maxHeartbeats 4000000
/-! data compared -/
namespace Ec
open PySem PySem.Spec PyProof.Rows L2 Evl SlX
/-- may be compared, at most n deep -/
def Sh (n : Nat) (d : PyData) : Prop := d.canLay0 = true ∧ d.depth ≤ n
theorem Sh.mono {n m : Nat} {d : PyData} (h : Sh n d) (l : n ≤ m) : Sh m d := ⟨h.1, Nat.le_trans h.2 l⟩
theorem Sh.ok {n : Nat} {d : PyData} (h : Sh n d) (hn : n ≤ 64) : SeqAt.shaped d = true := by
  unfold SeqAt.shaped
  rw [h.1, decide_eq_true (Nat.le_trans h.2 hn)]
  rfl
theorem sh_none (n : Nat) : Sh n .none := ⟨rfl, Nat.zero_le _⟩
theorem sh_int (n : Nat) (i : Int) : Sh n (.int i) := ⟨rfl, Nat.zero_le _⟩
theorem sh_str (n : Nat) {x : Str} (h : PyData.canLay0 (.str x) = true) : Sh n (.str x) := ⟨h, Nat.zero_le _⟩
theorem sh_all {n : Nat} : ∀ {ds : List PyData}, (∀ d ∈ ds, Sh n d) → PyData.canLayAll0 ds = true ∧ PyData.depthAll ds ≤ n
  | [], _ => ⟨rfl, Nat.zero_le _⟩
  | d :: ds, h => by
    have h1 := h d List.mem_cons_self
    have h2 := sh_all (n := n) (ds := ds) fun x hx => h x (List.mem_cons_of_mem _ hx)
    refine ⟨?_, ?_⟩
    · show (d.canLay0 && PyData.canLayAll0 ds) = true
      rw [h1.1, h2.1]
      rfl
    · show max d.depth (PyData.depthAll ds) ≤ n
      exact Nat.max_le.mpr ⟨h1.2, h2.2⟩
theorem sh_tup {n : Nat} {ds : List PyData} (h : ∀ d ∈ ds, Sh n d) : Sh (n + 1) (.tuple ds) := ⟨(sh_all h).1, Nat.succ_le_succ (sh_all h).2⟩
theorem sh_lst {n : Nat} {ds : List PyData} (h : ∀ d ∈ ds, Sh n d) : Sh (n + 1) (.list ds) := ⟨(sh_all h).1, Nat.succ_le_succ (sh_all h).2⟩
theorem sh_nil {n : Nat} : ∀ d ∈ ([] : List PyData), Sh n d := fun _ h => nomatch h
theorem sh_cons {n : Nat} {d : PyData} {ds : List PyData} (h : Sh n d) (t : ∀ x ∈ ds, Sh n x) : ∀ x ∈ d :: ds, Sh n x := fun x hx => by
  rcases List.mem_cons.mp hx with e | hx
  · rw [e]; exact h
  · exact t x hx
theorem eqv_self {n : Nat} {d : PyData} (h : Sh n d) : PyData.eqv d d = true := SeqAt.eqv_refl d h.1
theorem eqvAll_len : ∀ {xs ys : List PyData}, xs.length ≠ ys.length → PyData.eqvAll xs ys = false
  | [], [], h => absurd rfl h
  | [], _ :: _, _ => rfl
  | _ :: _, [], _ => rfl
  | x :: xs, y :: ys, h => by
    show (PyData.eqv x y && PyData.eqvAll xs ys) = false
    rw [eqvAll_len (xs := xs) (ys := ys) fun e => h (by rw [List.length_cons, List.length_cons, e]), Bool.and_false]
theorem eqv_len {xs ys : List PyData} (h : xs.length ≠ ys.length) : PyData.eqv (.tuple xs) (.tuple ys) = false := eqvAll_len h
/-! ### the data of this text -/
def iD (n : Nat) : PyData := .int (n : Nat)
def nisD (ns : List Nat) : PyData := .tuple (ns.map iD)
def G.d : G → PyData
  | .inp h => .tuple [.str "input", iD h]
  | .con c => .tuple [.str "constant", iD c]
  | .sum i j => .tuple [.str "sum", iD i, iD j]
  | .mul i c => .tuple [.str "times", iD i, iD c]
  | .pro i j => .tuple [.str "product", iD i, iD j]
def gsD (gs : List G) : PyData := .tuple (gs.map G.d)
def oD (o : Nat × List Nat) : PyData := .tuple [iD o.1, nisD o.2]
def osD (os : List (Nat × List Nat)) : PyData := .tuple (os.map oD)
theorem sh_i (n m : Nat) : Sh n (iD m) := sh_int n _
theorem sh_nis (ns : List Nat) : Sh 1 (nisD ns) := sh_tup fun d hd => by
  obtain ⟨m, _, rfl⟩ := List.mem_map.mp hd
  exact sh_i 0 m
theorem sh_g (g : G) : Sh 1 g.d := by
  cases g <;> exact sh_tup (sh_cons (sh_str 0 (by decide +kernel)) (by first | exact sh_cons (sh_i 0 _) sh_nil | exact sh_cons (sh_i 0 _) (sh_cons (sh_i 0 _) sh_nil)))
theorem sh_gs (gs : List G) : Sh 2 (gsD gs) := sh_tup fun d hd => by
  obtain ⟨g, _, rfl⟩ := List.mem_map.mp hd
  exact sh_g g
theorem sh_o (o : Nat × List Nat) : Sh 2 (oD o) := sh_tup (sh_cons (sh_i 1 _) (sh_cons (sh_nis _) sh_nil))
theorem sh_os (os : List (Nat × List Nat)) : Sh 3 (osD os) := sh_tup fun d hd => by
  obtain ⟨g, _, rfl⟩ := List.mem_map.mp hd
  exact sh_o g
section
variable {K : PySem.W.Frag} {H : Hp}
theorem dp_i (n : Nat) : Dp K H (ni n) (iD n) := .int _
theorem dpAll_nis : ∀ ns : List Nat, DpAll K H (nis ns) (ns.map iD)
  | [] => .nil
  | n :: ns => .cons (dp_i n) (dpAll_nis ns)
theorem dp_nis {a : Addr} {ns : List Nat} (h : H a = some (.tup (nis ns))) : Dp K H (.ref a) (nisD ns) := .tup (SqT.of h) (dpAll_nis ns)
theorem dp_nisL {a : Addr} {ns : List Nat} (h : H a = some (.lst (nis ns))) : Dp K H (.ref a) (.list (ns.map iD)) := .lst (SqL.of h) (dpAll_nis ns)
theorem dp_g {a : Addr} {g : G} (h : H a = some (.tup g.vs)) : Dp K H (.ref a) g.d := by
  cases g <;> exact .tup (SqT.of h) (.cons (.str _) (by first | exact .cons (.int _) .nil | exact .cons (.int _) (.cons (.int _) .nil)))
theorem dpAll_ix {vs : List V} {ds : List PyData} (hl : vs.length = ds.length) (h : ∀ (i : Nat) v d, vs[i]? = some v → ds[i]? = some d → Dp K H v d) : DpAll K H vs ds := by
  induction vs generalizing ds with
  | nil =>
    cases ds with
    | nil => exact .nil
    | cons d ds => cases hl
  | cons v vs ih =>
    cases ds with
    | nil => cases hl
    | cons d ds => exact .cons (h 0 v d rfl rfl) (ih (Nat.succ.inj hl) fun i x y h1 h2 => h (i + 1) x y h1 h2)
theorem dp_gs {a : Addr} {gs : List G} (h : GatesAt H a gs) : Dp K H (.ref a) (gsD gs) := by
  obtain ⟨vs, h1, h2, h3⟩ := h.at_
  refine .tup (SqT.of h1) (dpAll_ix (by rw [List.length_map]; exact h2) fun i v d hv hd => ?_)
  obtain ⟨p, g, rfl, hg, hp⟩ := h3 i v hv
  rw [List.getElem?_map, hg] at hd
  cases hd
  exact dp_g hp
theorem dp_o {a : Addr} {o : Nat × List Nat} (h : OutAt H a o) : Dp K H (.ref a) (oD o) := by
  obtain ⟨b, h1, h2⟩ := h
  exact .tup (SqT.of h1) (.cons (dp_i _) (.cons (dp_nis h2) .nil))
theorem dp_os {a : Addr} {os : List (Nat × List Nat)} (h : OutsAt H a os) : Dp K H (.ref a) (osD os) := by
  obtain ⟨vs, h1, h2, h3⟩ := h.at_
  refine .tup (SqT.of h1) (dpAll_ix (by rw [List.length_map]; exact h2) fun i v d hv hd => ?_)
  obtain ⟨p, g, rfl, hg, hp⟩ := h3 i v hv
  rw [List.getElem?_map, hg] at hd
  cases hd
  exact dp_o hp
end
end Ec
set_option maxRecDepth 100000
set_option maxHeartbeats 4000000
/-! more evaluations: what rests on tuples alone, comprehensions of made items, loops over enumerate(tuple) -/
namespace Ec
open PySem PySem.Spec PyProof.Rows L2 Evl SlX
/-- the tuples stay -/
def ExT (H H' : Hp) : Prop := ∀ a xs, H a = some (.tup xs) → H' a = some (.tup xs)
section
variable {K : PySem.W.Frag} {σ : L2.St} {H H' H'' : Hp} {ta tb te : TE} {t : TT} {x y v : V} {a : Addr} {gs : List G} {os : List (Nat × List Nat)}
theorem ext_of (e : Ex H H') : ExT H H' := fun a xs h => e a _ h
theorem ExT.refl (H : Hp) : ExT H H := fun _ _ h => h
theorem ExT.trans (a : ExT H H') (b : ExT H' H'') : ExT H H'' := fun x o h => b x o (a x o h)
theorem ext_l {l : Addr} {xs : List V} {o : HO} (h : H l = some (.lst xs)) : ExT H (upd H l o) := fun a ys ha => by
  by_cases e : a = l
  · subst e
    rw [h] at ha
    cases ha
  · rw [upd_ne e]
    exact ha
theorem GatesAt.ext (h : GatesAt H a gs) (e : ExT H H') : GatesAt H' a gs := let ⟨ps, h1, h2, h3⟩ := h; ⟨ps, e _ _ h1, h2, fun i p g x y => e _ _ (h3 i p g x y)⟩
theorem OutAt.ext {o : Nat × List Nat} (h : OutAt H a o) (e : ExT H H') : OutAt H' a o := let ⟨b, h1, h2⟩ := h; ⟨b, e _ _ h1, e _ _ h2⟩
theorem OutsAt.ext (h : OutsAt H a os) (e : ExT H H') : OutsAt H' a os := let ⟨ps, h1, h2, h3⟩ := h; ⟨ps, e _ _ h1, h2, fun i p g x y => (h3 i p g x y).ext e⟩
/-- a tuple of tuples of numbers -/
def NssAt (H : Hp) (a : Addr) (xss : List (List Nat)) : Prop := ∃ ps : List Addr, H a = some (.tup (ps.map V.ref)) ∧ ps.length = xss.length ∧ ∀ (i : Nat) p xs, ps[i]? = some p → xss[i]? = some xs → H p = some (.tup (nis xs))
theorem NssAt.ext {xss : List (List Nat)} (h : NssAt H a xss) (e : ExT H H') : NssAt H' a xss := let ⟨ps, h1, h2, h3⟩ := h; ⟨ps, e _ _ h1, h2, fun i p g x y => e _ _ (h3 i p g x y)⟩
theorem NssAt.ex {xss : List (List Nat)} (h : NssAt H a xss) (e : Ex H H') : NssAt H' a xss := h.ext (ext_of e)
def nssD (xss : List (List Nat)) : PyData := .tuple (xss.map nisD)
theorem sh_nss (xss : List (List Nat)) : Sh 2 (nssD xss) := sh_tup fun d hd => by
  obtain ⟨g, _, rfl⟩ := List.mem_map.mp hd
  exact sh_nis g
theorem dp_nss {xss : List (List Nat)} (h : NssAt H a xss) : Dp K H (.ref a) (nssD xss) := by
  obtain ⟨ps, h1, h2, h3⟩ := h
  refine .tup (SqT.of h1) (dpAll_ix (by rw [List.length_map, List.length_map]; exact h2) fun i v d hv hd => ?_)
  rw [List.getElem?_map] at hv hd
  cases e1 : ps[i]? with
  | none => rw [e1] at hv; cases hv
  | some p =>
    cases e2 : xss[i]? with
    | none => rw [e2] at hd; cases hd
    | some xs =>
      rw [e1] at hv
      rw [e2] at hd
      cases hv
      cases hd
      exact dp_nis (h3 i p xs e1 e2)
/-! ### places -/
theorem atI_nat {α : Type} {xs : List α} {i : Nat} {x : α} (h : xs[i]? = some x) : atI xs (i : Nat) = some x := by
  unfold atI
  rw [ixN_nat (List.getElem?_eq_some_iff.mp h).1]
  exact h
theorem at_nis {ns : List Nat} {i : Nat} (h : i < ns.length) : atI (nis ns) (i : Nat) = some (ni (ns.getD i 0)) := by
  refine atI_nat ?_
  unfold nis
  rw [List.getElem?_map, List.getD_eq_getElem?_getD, List.getElem?_eq_getElem h]
  rfl
theorem getD_of {α : Type} {xs : List α} {i : Nat} {x d : α} (h : xs[i]? = some x) : xs.getD i d = x := by rw [List.getD_eq_getElem?_getD, h]; rfl
theorem at_getD {α : Type} {xs : List α} {i : Nat} (d : α) (h : i < xs.length) : xs[i]? = some (xs.getD i d) := by rw [List.getD_eq_getElem?_getD, List.getElem?_eq_getElem h]; rfl
theorem range_getD {α : Type} (xs : List α) (d : α) : (List.range xs.length).map (fun i => xs.getD i d) = xs := by
  refine List.ext_getElem? fun i => ?_
  rw [List.getElem?_map]
  by_cases h : i < xs.length
  · rw [List.getElem?_range h, at_getD d h]
    rfl
  · rw [List.getElem?_eq_none (by rw [List.length_range]; omega), List.getElem?_eq_none (by omega)]
    rfl
/-- what is given, by the items -/
theorem given_of {α : Type} (xs : List α) (d : α) (p : α → Bool) (g : α → V) : given xs.length (fun i => p (xs.getD i d)) (fun i => g (xs.getD i d)) = (xs.filter p).map g := by
  unfold given
  rw [← (congrArg (fun z => (List.filter p z).map g) (range_getD xs d)), List.filter_map, List.map_map]
  rfl
theorem given_congr {n : Nat} {f f' : Nat → Bool} {v v' : Nat → V} (hf : ∀ i, i < n → f i = f' i) (hv : ∀ i, i < n → v i = v' i) : given n f v = given n f' v' := by
  unfold given
  have e : (List.range n).filter f = (List.range n).filter f' := List.filter_congr fun i hi => hf i (List.mem_range.mp hi)
  rw [e]
  exact List.map_congr_left fun i hi => hv i (List.mem_range.mp (List.mem_filter.mp hi).1)
theorem take_snoc {α : Type} {xs : List α} {i : Nat} {x : α} (h : xs[i]? = some x) : xs.take (i + 1) = xs.take i ++ [x] := by
  rw [List.take_succ, h]
  rfl
/-! ### numbers -/
theorem ni_add (a b : Nat) : V.int ((a : Int) + (b : Int)) = ni (a + b) := rfl
theorem ni_max (a b : Nat) : V.int (if (b : Int) > (a : Int) then (b : Int) else (a : Int)) = ni (max a b) := by
  unfold ni
  congr 1
  split <;> omega
theorem ev_maxN {i j : Nat} (ha : Ev ta σ H (ni i)) (hb : Ev tb σ H (ni j)) : Ev (tCB rMax2 (tCons ta (tCons tb tNil))) σ H (ni (max i j)) := ev_is (ev_max2 ha hb) (ni_max i j)
/-- the largest -/
def maxOf (ns : List Nat) : Nat := ns.foldl max 0
theorem foldl_max_ge (ns : List Nat) : ∀ a, a ≤ ns.foldl max a ∧ ∀ n ∈ ns, n ≤ ns.foldl max a := by
  induction ns with
  | nil => exact fun a => ⟨Nat.le_refl a, fun n h => nomatch h⟩
  | cons m ns ih =>
    intro a
    obtain ⟨h1, h2⟩ := ih (max a m)
    refine ⟨Nat.le_trans (Nat.le_max_left a m) h1, fun n h => ?_⟩
    rcases List.mem_cons.mp h with e | h
    · rw [e]
      exact Nat.le_trans (Nat.le_max_right a m) h1
    · exact h2 n h
theorem maxOf_ge {ns : List Nat} {n : Nat} (h : n ∈ ns) : n ≤ maxOf ns := (foldl_max_ge ns 0).2 n h
theorem foldl_max_mem (ns : List Nat) : ∀ a, ns.foldl max a = a ∨ ns.foldl max a ∈ ns := by
  induction ns with
  | nil => exact fun a => .inl rfl
  | cons m ns ih =>
    intro a
    rcases ih (max a m) with h | h
    · rw [List.foldl_cons, h]
      by_cases e : a ≤ m
      · exact .inr (by rw [Nat.max_eq_right e]; exact List.mem_cons_self)
      · exact .inl (Nat.max_eq_left (by omega))
    · exact .inr (List.mem_cons_of_mem _ h)
theorem maxOf_le {ns : List Nat} {m : Nat} (h : ∀ n ∈ ns, n ≤ m) : maxOf ns ≤ m := by
  rcases foldl_max_mem ns 0 with e | e
  · unfold maxOf
    omega
  · exact h _ e
theorem ev_maxL {p : Addr} {ns : List Nat} (ha : Ev ta σ H (.ref p)) (h : SqL K H p (nis ns)) (hn : ns ≠ []) : Ev (tCB (rMax K) (tCons ta tNil)) σ H (ni (maxOf ns)) := fun H1 e Q q =>
  ha H1 e _ fun H2 e2 => ⟨p, ns.map (fun n : Nat => Int.ofNat n), rfl, by rw [List.map_map]; exact ex_l (e.trans e2) h, by rw [List.length_map]; exact List.length_pos_iff.mpr hn, fun m hm hle => by
    obtain ⟨k, hk, rfl⟩ := List.mem_map.mp hm
    have e : maxOf ns = k := by
      have hle : ∀ n ∈ ns, (n : Int) ≤ (k : Int) := fun n hn => hle _ (List.mem_map.mpr ⟨n, hn, rfl⟩)
      refine Nat.le_antisymm (maxOf_le fun n hn => ?_) (maxOf_ge hk)
      have := hle n hn
      omega
    have q := q H2 e2
    rw [e] at q
    exact q⟩
/-- xs[::-1] -/
theorem el_rev {p : Addr} {xs : List V} (ha : EvL ta σ H xs) : EvL (tRevL K ta) σ H xs.reverse := fun H1 e Q q =>
  ha H1 e _ fun p H2 hp e2 h2 => ⟨p, xs, rfl, sq_of h2, fun l hl => q l _ (fresh_back e2 hl) (e2.trans (Ex.new hl)) upd_same⟩
theorem el_listT {p : Addr} {xs : List V} (ha : Ev ta σ H (.ref p)) (h : SqT K H p xs) : EvL (tCB (rListS K) (tCons ta tNil)) σ H xs := fun H1 e Q q =>
  ha H1 e _ fun H2 e2 => ⟨p, xs, rfl, Or.inr (ex_t (e.trans e2) h), fun l hl => q l _ (fresh_back e2 hl) (e2.trans (Ex.new hl)) upd_same⟩
/-! ### made items -/
/-- a new list, told by R -/
def EvLP (te : TE) (σ : L2.St) (H : Hp) (R : List V → Hp → Prop) : Prop := ∀ H1, Ex H H1 → ∀ Q : VK, (∀ p vs H2, H1 p = none → Ex H1 H2 → H2 p = some (.lst vs) → R vs H2 → Q (.ref p) H2) → te σ H1 Q
def EvUP (te : TE) (σ : L2.St) (H : Hp) (R : List V → Hp → Prop) : Prop := ∀ H1, Ex H H1 → ∀ Q : VK, (∀ p vs H2, H1 p = none → Ex H1 H2 → H2 p = some (.tup vs) → R vs H2 → Q (.ref p) H2) → te σ H1 Q
/-- v's are told by the k's -/
def Told {α : Type} (P : α → V → Hp → Prop) (ks : List α) (vs : List V) (H : Hp) : Prop := vs.length = ks.length ∧ ∀ (j : Nat) k v, ks[j]? = some k → vs[j]? = some v → P k v H
def Steady {α : Type} (P : α → V → Hp → Prop) : Prop := ∀ k v H H', ExT H H' → P k v H → P k v H'
theorem Told.ext {α : Type} {P : α → V → Hp → Prop} {ks : List α} {vs : List V} (h : Told P ks vs H) (s : Steady P) (e : ExT H H') : Told P ks vs H' := ⟨h.1, fun j k v a b => s k v _ _ e (h.2 j k v a b)⟩
theorem Told.nil {α : Type} {P : α → V → Hp → Prop} : Told P [] [] H := ⟨rfl, fun j k v a => by cases a⟩
theorem Told.snoc {α : Type} {P : α → V → Hp → Prop} {ks : List α} {vs : List V} {k : α} (h : Told P ks vs H) (hk : P k v H) : Told P (ks ++ [k]) (vs ++ [v]) H := by
  refine ⟨by rw [List.length_append, List.length_append, h.1]; rfl, fun j k' v' a b => ?_⟩
  by_cases hj : j < ks.length
  · rw [List.getElem?_append_left hj] at a
    rw [List.getElem?_append_left (by rw [h.1]; exact hj)] at b
    exact h.2 j k' v' a b
  · have hl : j = ks.length := by
      have := (List.getElem?_eq_some_iff.mp a).1
      rw [List.length_append] at this
      have : [k].length = 1 := rfl
      omega
    subst hl
    rw [List.getElem?_append_right (by omega), Nat.sub_self] at a
    rw [List.getElem?_append_right (by rw [h.1]; exact Nat.le_refl _), h.1, Nat.sub_self] at b
    cases a
    cases b
    exact hk
theorem told_refs {α : Type} {P : α → V → Hp → Prop} {Pa : α → Addr → Hp → Prop} {ks : List α} {vs : List V} (h : Told P ks vs H) (hp : ∀ k v, P k v H → ∃ p, v = .ref p ∧ Pa k p H) :
    ∃ ps : List Addr, vs = ps.map V.ref ∧ ps.length = ks.length ∧ ∀ (i : Nat) p k, ps[i]? = some p → ks[i]? = some k → Pa k p H := by
  induction vs generalizing ks with
  | nil => exact ⟨[], rfl, h.1, fun i p k a => by cases a⟩
  | cons v vs ih =>
    cases ks with
    | nil => cases h.1
    | cons k ks =>
      obtain ⟨p, rfl, hpa⟩ := hp k v (h.2 0 k v rfl rfl)
      obtain ⟨ps, rfl, hl, hq⟩ := ih (ks := ks) ⟨Nat.succ.inj h.1, fun j k v a b => h.2 (j + 1) k v a b⟩
      refine ⟨p :: ps, rfl, congrArg Nat.succ hl, fun i p' k' a b => ?_⟩
      cases i with
      | zero => cases a; cases b; exact hpa
      | succ i => exact hq i p' k' a b
def CwP {α : Type} (H : Hp) (P : α → V → Hp → Prop) (ks : Nat → List α) (Dl : Addr) (i : Nat) (H' : Hp) : Prop := H Dl = none ∧ Ex H H' ∧ ∃ vs, H' Dl = some (.lst vs) ∧ Told P (ks i) vs H'
/-- over any walk; items made -/
theorem el_lcWP {J : It} {n : Nat} {Gd : Hp → Prop} {Y : Nat → Hp → V → Hp → Prop} {wi : TI} {g : TG} {vs : List Nat} (st : Nat → L2.St) (f : Nat → Bool) (P : Nat → V → Hp → Prop) (w : Walk J n Gd Y) (hz : n ≤ 40000) (hP : Steady P)
    (hi : ∀ H0, Ex H H0 → ∀ R : It → Hp → Prop, (∀ H1, Ex H0 H1 → R J H1) → wi σ H0 R) (hG : ∀ H1, Ex H H1 → Gd H1)
    (hs : ∀ i x H1 H2 (R : L2.St → Hp → Prop), i < n → Ex H H1 → Y i H1 x H2 → Ex H1 H2 ∧ (R (st i) H2 → g x (wipe σ vs) H2 R)) (hw : ∀ i, i < n → wipe (st i) vs = wipe σ vs)
    (ht : ∀ i H1, i < n → Ex H H1 → EvT t (st i) H1 (f i)) (he : ∀ i H1, i < n → Ex H H1 → f i = true → EvP te (st i) H1 (P i)) : EvLP (tLc wi g t te vs) σ H (Told P ((List.range n).filter f)) := fun H0 e Q q => by
  refine hi H0 e _ fun H1 e1 D hD => ?_
  refine lc_it w (CwP H1 P (fun i => (List.range i).filter f) D) ⟨hD, Ex.new hD, [], upd_same, Told.nil⟩ (fun i H2 _ p => hG H2 ((e.trans e1).trans p.2.1)) (fun i x H2 H3 hi2 p y => ?_) (fun H2 p => ?_)
  · obtain ⟨e3, k⟩ := hs i x H2 H3 _ hi2 ((e.trans e1).trans p.2.1) y
    refine k ⟨hw i hi2, ?_⟩
    obtain ⟨p1, p2, vs', p3, p4⟩ := p
    have hl : vs'.length ≤ i := by
      have h := List.length_filter_le f (List.range i)
      rw [List.length_range] at h
      rw [p4.1]
      exact h
    refine ht i H3 hi2 (((e.trans e1).trans p2).trans e3) H3 (Ex.refl H3) _ fun H4 e4 => ?_
    cases hf : f i with
    | true =>
      rw [if_pos rfl]
      refine he i H4 hi2 ((((e.trans e1).trans p2).trans e3).trans e4) hf H4 (Ex.refl H4) _ fun v H5 e5 hv => ?_
      have e25 := (e3.trans e4).trans e5
      have hD5 := e25 D _ p3
      refine ⟨vs', hD5, sz_lt (by omega), p1, Ex.mut (p2.trans e25) p1, vs' ++ [v], upd_same, ?_⟩
      have ek : (List.range (i + 1)).filter f = (List.range i).filter f ++ [i] := by
        rw [List.range_succ, List.filter_append, List.filter_cons, if_pos hf]
        rfl
      show Told P ((List.range (i + 1)).filter f) _ _
      rw [ek]
      exact ((p4.ext hP (ext_of e25)).snoc hv).ext hP (ext_l hD5)
    | false =>
      rw [if_neg Bool.false_ne_true]
      have e24 := e3.trans e4
      refine ⟨p1, p2.trans e24, vs', e24 D _ p3, ?_⟩
      have ek : (List.range (i + 1)).filter f = (List.range i).filter f := by
        rw [List.range_succ, List.filter_append, List.filter_cons, if_neg (by rw [hf]; decide)]
        exact List.append_nil _
      show Told P ((List.range (i + 1)).filter f) _ _
      rw [ek]
      exact p4.ext hP (ext_of e24)
  · obtain ⟨p1, p2, vs', p3, p4⟩ := p
    exact q D vs' H2 (fresh_back e1 p1) (e1.trans p2) p3 p4
theorem eu_tupP {R : List V → Hp → Prop} (hR : ∀ vs H H', Ex H H' → R vs H → R vs H') (ha : EvLP ta σ H R) : EvUP (tCB (rTupOf K) (tCons ta tNil)) σ H R := fun H1 e Q q =>
  ha H1 e _ fun p vs H2 hp e2 h2 hr => ⟨p, vs, rfl, .inl ⟨sq_of h2, fun l hl => q l vs _ (fresh_back e2 hl) (e2.trans (Ex.new hl)) upd_same (hR vs _ _ (Ex.new hl) hr)⟩⟩
theorem Told.mono {α : Type} {P : α → V → Hp → Prop} {ks : List α} (s : Steady P) (vs : List V) (H H' : Hp) (e : Ex H H') (h : Told P ks vs H) : Told P ks vs H' := h.ext s (ext_of e)
/-! ### a loop over enumerate(tuple) -/
theorem s_forE {D : Ends} {tu : TS} {ta : TA} {xs : List V} {j1 j2 : Nat} (h : EvA ta σ H [.ref a]) (hx : SqT K H a xs) (Pv : Nat → L2.St → Hp → Prop) (h0 : ∀ H1, Ex H H1 → Pv 0 σ H1) (hl : ∀ i σ' H', i ≤ xs.length → Pv i σ' H' → SqT K H' a xs)
    (hs : ∀ i x σ' H' H'', xs[i]? = some x → Pv i σ' H' → Ex H' H'' → tu { D with nx := Pv (i + 1), ct := Pv (i + 1), bk := D.nx } ((σ'.set j1 (some (ni i))).set j2 (some x)) H'') (hd : ∀ σ' H', Pv xs.length σ' H' → D.nx σ' H') :
    tFor (iEnumT K ta) (gTup K 2 (gCons (gName j1) (gCons (gName j2) gNil))) tu D σ H :=
  h H (Ex.refl H) _ fun H1 e => ⟨a, xs, rfl, ex_t e hx, for_it (walk_enumT (K := K) (a := a)) Pv (h0 H1 e) hl (fun i x σ' H' H2 hi p y => by
    obtain ⟨T, x1, x2, rfl, hT, rfl, hx1, hx2⟩ := y
    cases hx1
    exact ⟨T, _, rfl, st_of upd_same, rfl, _, _, rfl, _, _, rfl, rfl, hs i x2 σ' H' _ hx2 p (Ex.new hT)⟩) hd⟩
theorem q_forE {D : Ends} {tu tz : TS} {ta : TA} {xs : List V} {j1 j2 : Nat} (h : EvA ta σ H [.ref a]) (hx : SqT K H a xs) (Pv : Nat → L2.St → Hp → Prop) (h0 : ∀ H1, Ex H H1 → Pv 0 σ H1) (hl : ∀ i σ' H', i ≤ xs.length → Pv i σ' H' → SqT K H' a xs)
    (hs : ∀ i x σ' H' H'', xs[i]? = some x → Pv i σ' H' → Ex H' H'' → tu { D with nx := Pv (i + 1), ct := Pv (i + 1), bk := tz D } ((σ'.set j1 (some (ni i))).set j2 (some x)) H'') (hd : ∀ σ' H', Pv xs.length σ' H' → tz D σ' H') :
    tSeq (tFor (iEnumT K ta) (gTup K 2 (gCons (gName j1) (gCons (gName j2) gNil))) tu) tz D σ H := s_forE (D := { D with nx := tz D }) h hx Pv h0 hl hs hd
/-! ### calls that make lists; assignments of made lists -/
theorem el_cal {sp : Sp} {vs xs : List V} {ta : TA} (h : EvA ta σ H vs) (hs : SpL sp vs H xs) : EvL (tCall sp [] E0 ta) σ H xs := el_call h (by rw [List.append_nil]; exact hs)
/-- a promise whose result is told by R -/
def SpP (sp : Sp) (vs : List V) (H : Hp) (R : V → Hp → Prop) : Prop := ∀ H1, Ex H H1 → ∀ Q : VK, (∀ v H2, Ex H1 H2 → R v H2 → Q v H2) → ∀ E : XK, sp vs H1 Q E
theorem evp_cal {sp : Sp} {vs : List V} {ta : TA} {R : V → Hp → Prop} (h : EvA ta σ H vs) (hs : SpP sp vs H R) : EvP (tCall sp [] E0 ta) σ H R := fun H1 e Q q =>
  h H1 e _ fun H2 e2 => (by
    rw [List.append_nil]
    exact hs H2 (e.trans e2) Q (fun v H3 e3 hv => q v H3 (e2.trans e3) hv) E0)
theorem EvP.imp {R R' : V → Hp → Prop} (h : EvP te σ H R) (k : ∀ v H2, Ex H H2 → R v H2 → R' v H2) : EvP te σ H R' := fun H1 e Q q => h H1 e Q fun v H2 e2 hv => q v H2 e2 (k v H2 (e.trans e2) hv)
theorem EvP.mono {R : V → Hp → Prop} (e : Ex H H') (h : EvP te σ H R) : EvP te σ H' R := fun H1 a Q q => h H1 (e.trans a) Q q
def TupV (xs : List V) (v : V) (H : Hp) : Prop := ∃ p, v = .ref p ∧ H p = some (.tup xs)
theorem evp_U {xs : List V} (h : EvU te σ H xs) : EvP te σ H (TupV xs) := fun H1 e Q q => h H1 e Q fun p H2 _ e2 hp => q _ H2 e2 ⟨p, rfl, hp⟩
theorem tupV_steady {α : Type} (f : α → List V) : Steady fun k v H => TupV (f k) v H := fun k v H H' e h => by
  obtain ⟨p, rfl, hp⟩ := h
  exact ⟨p, rfl, e _ _ hp⟩
theorem s_asgLP {D : Ends} {i : Nat} {R : List V → Hp → Prop} (h : EvLP te σ H R) (k : ∀ p vs H1, H p = none → Ex H H1 → H1 p = some (.lst vs) → R vs H1 → D.nx (σ.set i (some (.ref p))) H1) : tAsg te (gName i) D σ H := h H (Ex.refl H) _ fun p vs H1 hp e h1 hr => k p vs H1 hp e h1 hr
theorem q_asgLP {D : Ends} {tz : TS} {i : Nat} {R : List V → Hp → Prop} (h : EvLP te σ H R) (k : ∀ p vs H1, H p = none → Ex H H1 → H1 p = some (.lst vs) → R vs H1 → tz D (σ.set i (some (.ref p))) H1) : tSeq (tAsg te (gName i)) tz D σ H := s_asgLP (D := { D with nx := tz D }) h k
theorem s_asgP {D : Ends} {i : Nat} {R : V → Hp → Prop} (h : EvP te σ H R) (k : ∀ v H1, Ex H H1 → R v H1 → D.nx (σ.set i (some v)) H1) : tAsg te (gName i) D σ H := h H (Ex.refl H) _ fun v H1 e hr => k v H1 e hr
theorem q_asgP {D : Ends} {tz : TS} {i : Nat} {R : V → Hp → Prop} (h : EvP te σ H R) (k : ∀ v H1, Ex H H1 → R v H1 → tz D (σ.set i (some v)) H1) : tSeq (tAsg te (gName i)) tz D σ H := s_asgP (D := { D with nx := tz D }) h k
theorem s_retP {D : Ends} {R : V → Hp → Prop} (h : EvP te σ H R) (k : ∀ v H1, Ex H H1 → R v H1 → D.rt v H1) : tRet te D σ H := h H (Ex.refl H) _ k
theorem s_retUP {D : Ends} {R : List V → Hp → Prop} (h : EvUP te σ H R) (k : ∀ p vs H1, H p = none → Ex H H1 → H1 p = some (.tup vs) → R vs H1 → D.rt (.ref p) H1) : tRet te D σ H := h H (Ex.refl H) _ k
theorem s_retLP {D : Ends} {R : List V → Hp → Prop} (h : EvLP te σ H R) (k : ∀ p vs H1, H p = none → Ex H H1 → H1 p = some (.lst vs) → R vs H1 → D.rt (.ref p) H1) : tRet te D σ H := h H (Ex.refl H) _ k
section
variable {b : Addr} {xs ys : List V} {vs : List Nat} {ta : TA}
/-- made items over enumerate(list) -/
theorem el_lcELP {j1 j2 : Nat} (f : Nat → Bool) (P : Nat → V → Hp → Prop) (hP : Steady P) (h : EvA ta σ H [.ref a]) (hx : SqL K H a xs) (hz : xs.length ≤ 40000) (hw : ∀ x y, wipe (((wipe σ vs).set j1 (some x)).set j2 (some y)) vs = wipe σ vs)
    (ht : ∀ (i : Nat) (x : V) H1, Ex H H1 → xs[i]? = some x → EvT t (((wipe σ vs).set j1 (some (ni i))).set j2 (some x)) H1 (f i)) (he : ∀ (i : Nat) (x : V) H1, Ex H H1 → xs[i]? = some x → f i = true → EvP te (((wipe σ vs).set j1 (some (ni i))).set j2 (some x)) H1 (P i)) :
    EvLP (tLc (iEnum K ta) (gTup K 2 (gCons (gName j1) (gCons (gName j2) gNil))) t te vs) σ H (Told P ((List.range xs.length).filter f)) := by
  have at_ : ∀ i, i < xs.length → xs[i]? = some (xs.getD i .non) := fun i hi => at_getD _ hi
  refine el_lcWP (Gd := fun H => SqL K H a xs) (fun i => ((wipe σ vs).set j1 (some (ni i))).set j2 (some (xs.getD i .non))) f P (walk_enum (K := K) (a := a)) hz hP (fun H0 e R q => h H0 e _ fun H1 e1 => ⟨a, xs, rfl, ex_l (e.trans e1) hx, q H1 e1⟩) (fun H1 e => ex_l e hx) ?_ (fun i _ => hw _ _) (fun i H1 hi e => ht i _ H1 e (at_ i hi)) (fun i H1 hi e hf => he i _ H1 e (at_ i hi) hf)
  rintro i x H1 H2 R hi e ⟨T, x1, x2, rfl, hT, rfl, hx1, hx2⟩
  cases hx1
  have hx2 : xs[i]? = some x2 := hx2
  rw [at_ i hi] at hx2
  cases hx2
  exact ⟨Ex.new hT, fun r => ⟨T, _, rfl, st_of upd_same, rfl, _, _, rfl, _, _, rfl, rfl, r⟩⟩
/-- .. over a list -/
theorem el_lcLP {tl : TE} {j : Nat} (f : Nat → Bool) (P : Nat → V → Hp → Prop) (hP : Steady P) (h : Ev tl σ H (.ref a)) (hx : SqL K H a xs) (hz : xs.length ≤ 40000) (hw : ∀ x, wipe ((wipe σ vs).set j (some x)) vs = wipe σ vs)
    (ht : ∀ (i : Nat) (x : V) H1, Ex H H1 → xs[i]? = some x → EvT t ((wipe σ vs).set j (some x)) H1 (f i)) (he : ∀ (i : Nat) (x : V) H1, Ex H H1 → xs[i]? = some x → f i = true → EvP te ((wipe σ vs).set j (some x)) H1 (P i)) :
    EvLP (tLc (iList K tl) (gName j) t te vs) σ H (Told P ((List.range xs.length).filter f)) := by
  have at_ : ∀ i, i < xs.length → xs[i]? = some (xs.getD i .non) := fun i hi => at_getD _ hi
  refine el_lcWP (Gd := fun H => SqL K H a xs) (fun i => (wipe σ vs).set j (some (xs.getD i .non))) f P (walk_list (K := K) (a := a)) hz hP (fun H0 e R q => h H0 e _ fun H1 e1 => ⟨a, rfl, ⟨xs, ex_l (e.trans e1) hx⟩, q H1 e1⟩) (fun H1 e => ex_l e hx) ?_ (fun i _ => hw _) (fun i H1 hi e => ht i _ H1 e (at_ i hi)) (fun i H1 hi e hf => he i _ H1 e (at_ i hi) hf)
  rintro i x H1 H2 R hi e ⟨rfl, hx'⟩
  rw [at_ i hi] at hx'
  cases hx'
  exact ⟨Ex.refl _, fun r => r⟩
/-- .. over range(lo, hi) -/
theorem el_lcR2P {j : Nat} {lo hi : Int} {n : Nat} (f : Nat → Bool) (P : Nat → V → Hp → Prop) (hP : Steady P) (h : EvA ta σ H [.int lo, .int hi]) (hb : 0 ≤ lo ∧ lo ≤ 40000 ∧ -1000 ≤ hi ∧ hi ≤ 40000) (hn : n = (hi - lo).toNat) (hw : ∀ x, wipe ((wipe σ vs).set j (some x)) vs = wipe σ vs)
    (ht : ∀ (i : Nat) H1, Ex H H1 → i < n → EvT t ((wipe σ vs).set j (some (.int (lo + i)))) H1 (f i)) (he : ∀ (i : Nat) H1, Ex H H1 → i < n → f i = true → EvP te ((wipe σ vs).set j (some (.int (lo + i)))) H1 (P i)) :
    EvLP (tLc (iRng2 ta) (gName j) t te vs) σ H (Told P ((List.range n).filter f)) := by
  subst hn
  intro H0 e Q q
  refine h H0 e _ fun H1 e1 => ⟨lo, hi, rfl, ⟨by omega, by omega, by omega, by omega⟩, ?_⟩
  refine el_lcWP (t := t) (te := te) (σ := σ) (H := H1) (wi := fun _ H0 R => R (Itr lo (hi - lo).toNat) H0) (g := gName j) (Gd := fun _ => True) (fun i => (wipe σ vs).set j (some (.int (lo + i)))) f P walk_range (by omega) hP (fun H0 e R q => q H0 (Ex.refl H0)) (fun H1 e => True.intro) ?_ (fun i _ => hw _)
    (fun i H2 hi e2 => ht i H2 ((e.trans e1).trans e2) hi) (fun i H2 hi e2 hf => he i H2 ((e.trans e1).trans e2) hi hf) H1 (Ex.refl H1) Q fun p vs H2 hp e2 h2 hr => q p vs H2 (fresh_back e1 hp) (e1.trans e2) h2 hr
  rintro i x H1 H2 R hi e ⟨rfl, rfl⟩
  exact ⟨Ex.refl _, fun r => r⟩
/-- .. over range(n) -/
theorem el_lcR1P {j : Nat} {n : Nat} (f : Nat → Bool) (P : Nat → V → Hp → Prop) (hP : Steady P) (h : EvA ta σ H [ni n]) (hb : n ≤ 40000) (hw : ∀ x, wipe ((wipe σ vs).set j (some x)) vs = wipe σ vs)
    (ht : ∀ (i : Nat) H1, Ex H H1 → i < n → EvT t ((wipe σ vs).set j (some (ni i))) H1 (f i)) (he : ∀ (i : Nat) H1, Ex H H1 → i < n → f i = true → EvP te ((wipe σ vs).set j (some (ni i))) H1 (P i)) :
    EvLP (tLc (iRng1 ta) (gName j) t te vs) σ H (Told P ((List.range n).filter f)) := by
  intro H0 e Q q
  refine h H0 e _ fun H1 e1 => ⟨(n : Int), rfl, by omega, by omega, ?_⟩
  refine el_lcWP (t := t) (te := te) (σ := σ) (H := H1) (wi := fun _ H0 R => R (Itr 0 (n : Int).toNat) H0) (g := gName j) (Gd := fun _ => True) (fun i => (wipe σ vs).set j (some (.int (0 + (i : Nat))))) f P walk_range (by omega) hP (fun H0 e R q => q H0 (Ex.refl H0)) (fun H1 e => True.intro) ?_ (fun i _ => hw _)
    (fun i H2 hi e2 => by rw [Int.zero_add]; exact ht i H2 ((e.trans e1).trans e2) (by omega)) (fun i H2 hi e2 hf => by rw [Int.zero_add]; exact he i H2 ((e.trans e1).trans e2) (by omega) hf) H1 (Ex.refl H1) Q fun p vs H2 hp e2 h2 hr => q p vs H2 (fresh_back e1 hp) (e1.trans e2) h2 hr
  rintro i x H1 H2 R hi e ⟨rfl, rfl⟩
  exact ⟨Ex.refl _, fun r => r⟩
/-- over a list of pairs, each told apart -/
theorem el_lcL2 {tl : TE} {j1 j2 : Nat} (f : Nat → Bool) (v : Nat → V) (px py : Nat → V) (h : Ev tl σ H (.ref a)) (hx : SqL K H a xs) (hp : ∀ (i : Nat) x, xs[i]? = some x → ∃ p, x = .ref p ∧ SqT K H p [px i, py i]) (hz : xs.length ≤ 40000)
    (hw : ∀ x y, wipe (((wipe σ vs).set j1 (some x)).set j2 (some y)) vs = wipe σ vs)
    (ht : ∀ (i : Nat) H1, Ex H H1 → i < xs.length → EvT t (((wipe σ vs).set j1 (some (px i))).set j2 (some (py i))) H1 (f i)) (he : ∀ (i : Nat) H1, Ex H H1 → i < xs.length → f i = true → Ev te (((wipe σ vs).set j1 (some (px i))).set j2 (some (py i))) H1 (v i)) :
    EvL (tLc (iList K tl) (gTup K 2 (gCons (gName j1) (gCons (gName j2) gNil))) t te vs) σ H (given xs.length f v) := by
  have at_ : ∀ i, i < xs.length → xs[i]? = some (xs.getD i .non) := fun i hi => at_getD _ hi
  refine el_lcW (Gd := fun H => SqL K H a xs) (fun i => ((wipe σ vs).set j1 (some (px i))).set j2 (some (py i))) f v (walk_list (K := K) (a := a)) hz (fun H0 e R q => h H0 e _ fun H1 e1 => ⟨a, rfl, ⟨xs, ex_l (e.trans e1) hx⟩, q H1 e1⟩) (fun H1 e => ex_l e hx) ?_ (fun i _ => hw _ _) (fun i H1 hi e => ht i H1 e hi) (fun i H1 hi e hf => he i H1 e hi hf)
  rintro i x H1 H2 R hi e ⟨rfl, hx'⟩
  obtain ⟨p, rfl, hp⟩ := hp i x hx'
  exact ⟨Ex.refl _, fun r => ⟨p, _, rfl, ex_t e hp, rfl, _, _, rfl, _, _, rfl, rfl, r⟩⟩
theorem el_lcT2 {tl : TE} {j1 j2 : Nat} (f : Nat → Bool) (v : Nat → V) (px py : Nat → V) (h : Ev tl σ H (.ref a)) (hx : SqT K H a xs) (hp : ∀ (i : Nat) x, xs[i]? = some x → ∃ p, x = .ref p ∧ SqT K H p [px i, py i]) (hz : xs.length ≤ 40000)
    (hw : ∀ x y, wipe (((wipe σ vs).set j1 (some x)).set j2 (some y)) vs = wipe σ vs)
    (ht : ∀ (i : Nat) H1, Ex H H1 → i < xs.length → EvT t (((wipe σ vs).set j1 (some (px i))).set j2 (some (py i))) H1 (f i)) (he : ∀ (i : Nat) H1, Ex H H1 → i < xs.length → f i = true → Ev te (((wipe σ vs).set j1 (some (px i))).set j2 (some (py i))) H1 (v i)) :
    EvL (tLc (iTup K tl) (gTup K 2 (gCons (gName j1) (gCons (gName j2) gNil))) t te vs) σ H (given xs.length f v) := by
  have at_ : ∀ i, i < xs.length → xs[i]? = some (xs.getD i .non) := fun i hi => at_getD _ hi
  refine el_lcW (Gd := fun H => SqT K H a xs) (fun i => ((wipe σ vs).set j1 (some (px i))).set j2 (some (py i))) f v (walk_tup (K := K) (a := a)) hz (fun H0 e R q => h H0 e _ fun H1 e1 => ⟨a, rfl, ⟨xs, ex_t (e.trans e1) hx⟩, q H1 e1⟩) (fun H1 e => ex_t e hx) ?_ (fun i _ => hw _ _) (fun i H1 hi e => ht i H1 e hi) (fun i H1 hi e hf => he i H1 e hi hf)
  rintro i x H1 H2 R hi e ⟨rfl, hx'⟩
  obtain ⟨p, rfl, hp⟩ := hp i x hx'
  exact ⟨Ex.refl _, fun r => ⟨p, _, rfl, ex_t e hp, rfl, _, _, rfl, _, _, rfl, rfl, r⟩⟩
end
end
end Ec
set_option maxRecDepth 100000
set_option maxHeartbeats 4000000
/-! the class: its facts, its methods, properties, making, ==, != and str by their promises -/
namespace Ec
open PySem PySem.Spec PyProof.Rows L2 Evl SlX

structure CiF (K : PySem.W.Frag) (mg : Str → Option Value) (C : Addr) : Prop where
  sc : SCls K C
  si : SIsi K C
  s0 : ∃ p, Slot1 K C "own_gates" p 0
  s1 : ∃ p, Slot1 K C "own_outputs" p 1
  mgC : mg "Circuit" = some (.ref C)
  kc : PySem.W.kitOne K (.ref C) (.ref C) = some true
  kn : PySem.W.kitOne K (.type "NoneType") (.ref C) = some false
  kt : PySem.W.kitOne K (.type "tuple") (.ref C) = some false
  ks : PySem.W.kitOne K (.type "str") (.ref C) = some false
  nn : PySem.W.notFirst K C (.type "NoneType") = true
  nt : PySem.W.notFirst K C (.type "tuple") = true
  ns : PySem.W.notFirst K C (.type "str") = true
  ne : PySem.W.findIn K (.ref C) "__ne__" = some (some (.builtin "object.__ne__"))
/-- a def of the class: what the class says of its address, its promise -/
structure AtF (P : Program) (w : World) (K : PySem.W.Frag) (mg : Str → Option Value) (base : Heap) (k : Nat) (R : Addr → Prop) (ps : List Str) (sp : Sp) : Prop where
  ex : ∃ (f : Addr) (fd : FuncData), FnOk P w K mg base CX0 k f fd ps sp ∧ R f ∧ Binds K fd ps []
structure FunAt (K : PySem.W.Frag) (R : Addr → Prop) (x qual : Str) (st : Stmt) (ps : List Str) : Prop where
  ex : ∃ (f : Addr) (fd : FuncData), Fun K x qual st f fd ∧ R f ∧ Binds K fd ps []
def RMeth (K : PySem.W.Frag) (C : Addr) (m : Str) : Addr → Prop := fun f => Meth K C m f
def RProp (K : PySem.W.Frag) (C : Addr) (x : Str) : Addr → Prop := fun f => ∃ p, PySem.W.findIn K (.ref C) x = some (some (.ref p)) ∧ PySem.W.specialIn K (.ref p) "__get__" = some (some (.builtin "property.__get__")) ∧ PySem.W.takesIn K (.ref p) = some true ∧ ∃ rest, PySem.W.recIn K p "property" = some (.ref f :: rest)
def RMk (K : PySem.W.Frag) (C : Addr) : Addr → Prop := fun f => Mk K C f
def ROwn (K : PySem.W.Frag) (C : Addr) (x : Str) : Addr → Prop := fun f => PySem.W.findIn K (.ref C) x = some (some (.ref f)) ∧ PySem.W.isFn K (.ref f) = true
section
variable {P : Program} {w : World} {K : PySem.W.Frag} {mg : Str → Option Value} {base : Heap} {R : Addr → Prop}
theorem AtF.mk' {k : Nat} {x qual : Str} {st : Stmt} {N ps : List Str} {sp : Sp} (FX : FunAt K R x qual st ps) (S : FnScope N ps (defScope st)) (len : ∀ vs H Q E, sp vs H Q E → vs.length = ps.length)
    (hbody : ∀ (f : Addr) (cdv : Value) (A : Around) (outer : List Env) (s : Shared) (H : Hp) (vs : List V) (Q : VK) (E : XK), Room k (A.deeper (envOfC qual (defScope st) s.heap.objs.size f cdv)) → sp vs H Q E →
      ∃ t, PSs (cxOf CX0 P w K mg base N qual (defScope st) f cdv A outer s H E).nox (defBody st) t ∧ t { nx := fun _ H' => Q .non H', rt := Q } (start N vs) H) : AtF P w K mg base (k + 1) R ps sp := by
  obtain ⟨f, fd, F, hm, hb⟩ := FX.ex
  exact ⟨f, fd, F.ok S len (hbody f), hm, hb⟩
theorem AtF.raw {k : Nat} {ps : List Str} {sp : Sp} (F : AtF P w K mg base k R ps sp) : ∃ f, R f ∧ FnR P w K mg base CX0 k f sp := by
  obtain ⟨f, fd, F, hm, hb⟩ := F.ex
  exact ⟨f, hm, (F.raw hb .nil).imp fun vs H Q E h => by rw [List.append_nil]; exact h⟩
end
section
variable {X : Cx} {k : Nat} {ps : List Str} {sp : Sp} {C : Addr} {o e : Expr} {es : List Expr} {x m : Str} {pos apos p : Pos} {ta : TE} {t : TA}
theorem pe_pcal (F : AtF X.prog X.w X.K X.mg X.base k (RProp X.K C x) ps sp) (c : SCls X.K C) (hr : Room (k + 1) X.A) (he : PE X e ta) (hb : attributeBase e x X.env (eval e X.env) = eval e X.env := by rfl) : PE X (.Attribute e x pos) (tPropSl C sp E0 ta) := by
  obtain ⟨g, ⟨p, h1, h2, h3, h4⟩, F⟩ := F.raw
  exact pe_propSl he c h1 h2 h3 h4 F hr (fun _ _ _ _ h => h.elim) hb
theorem pe_mcal {pl : Sem Bool} (F : AtF X.prog X.w X.K X.mg X.base k (RMeth X.K C m) ps sp) (c : SCls X.K C) (hr : Room k X.A) (he : PE X o ta) (ha : PA X (e :: es) t)
    (hst : starEach (e :: es) X.env = (false, eval e X.env) :: starEach es X.env := by rfl) (hpl : (backTo pos (starEach es X.env)).any (·.1) = false := by rfl)
    (ht : eval (.Call (.Attribute o m apos) (e :: es) [] pos) X.env = (do
      let ov ← eval o X.env
      standAt apos.atName
      let (f, first) ← holding [ov] (getMethod ov m pl)
      callWith pos f first (backTo pos (starEach (e :: es) X.env)) (backToKw pos (keywordEach [] X.env))) := by rfl) : PE X (.Call (.Attribute o m apos) (e :: es) [] pos) (tMethSl C sp E0 ta t) := by
  obtain ⟨g, hm, F⟩ := F.raw
  exact pe_methSl he c hm F hr pass0 ha hst hpl ht
theorem pe_mkC (F : AtF X.prog X.w X.K X.mg X.base k (RMk X.K C) ps sp) (hm : X.mg x = some (.ref C)) (hr : Room (k + 1) X.A) (hg : Gl X x) (ha : PA X (e :: es) t) (hdb : (x == ("__debug__" : Str)) = false := by decide)
    (he : starEach (e :: es) X.env = (false, eval e X.env) :: starEach es X.env := by rfl) (hpl : (backTo pos (starEach es X.env)).any (·.1) = false := by rfl) : PE X (.Call (.Name x p) (e :: es) [] pos) (tMake C sp [] E0 t) := by
  obtain ⟨f, fd, F, hk, hb⟩ := F.ex
  exact pe_make hk F hr hg hm hb .nil pass0 ha hdb he hpl
theorem op_eqC (F : AtF X.prog X.w X.K X.mg X.base k (ROwn X.K C "__eq__") ps sp) (hr : Room k X.A) : OpR X (compareOp .Eq) (rOwnEq X.K C sp E0) := by
  obtain ⟨g, hm, F⟩ := F.raw
  exact op_ownEq hm.1 hm.2 F hr pass0
theorem op_neC (F : AtF X.prog X.w X.K X.mg X.base k (ROwn X.K C "__eq__") ps sp) (c : CiF X.K X.mg C) (hr : Room (k + 1) X.A) : OpR X (compareOp .NotEq) (rOwnNe X.K C sp E0) := by
  obtain ⟨g, hm, F⟩ := F.raw
  exact op_ownNe c.ne c.si.cm hm.1 hm.2 F hr pass0
theorem call_strC (F : AtF X.prog X.w X.K X.mg X.base k (ROwn X.K C "__str__") ps sp) (hr : Room (k + 2) X.A) : CallR X (.type "str") (rStrOwn C sp E0) := by
  obtain ⟨g, hm, F⟩ := F.raw
  exact call_strOwn hm.1 hm.2 F hr pass0
theorem callR_or {f : Value} {r1 r2 : List V → Hp → VK → Prop} (h1 : CallR X f r1) (h2 : CallR X f r2) : CallR X f (fun xs H Q => r1 xs H Q ∨ r2 xs H Q) := fun pins s σ H xs us Q I r h => h.elim (h1 pins s σ H xs us Q I r) (h2 pins s σ H xs us Q I r)
end
theorem hu_of {k : Nat} {A : Around} (hr : Room k A) : A.units + 1 < cLine := Nat.lt_of_le_of_lt (Nat.add_le_add_left (by decide) _) hr.units
/-! ### evaluations -/
section
variable {K : PySem.W.Frag} {mg : Str → Option Value} {σ : L2.St} {H H' : Hp} {ta tb te : TE} {tas : TA} {a C : Addr} {gs : List G} {os : List (Nat × List Nat)} {sp : Sp} {z : V} {vs : List V}
theorem ev_g (F : CiF K mg C) (hc : CirAt C H a gs os) : ∃ ga, GatesAt H ga gs ∧ ∀ H', Ex H H' → ∀ σ te, Ev te σ H' (.ref a) → Ev (SlX.tSl K te "own_gates") σ H' (.ref ga) := by
  obtain ⟨dx, ga, oa, hs, hg, ho⟩ := hc
  obtain ⟨p, s⟩ := F.s0
  exact ⟨ga, hg, fun H' e σ te h => ev_sl h (slt_ex hs e) F.sc s rfl⟩
theorem ev_o (F : CiF K mg C) (hc : CirAt C H a gs os) : ∃ oa, OutsAt H oa os ∧ ∀ H', Ex H H' → ∀ σ te, Ev te σ H' (.ref a) → Ev (SlX.tSl K te "own_outputs") σ H' (.ref oa) := by
  obtain ⟨dx, ga, oa, hs, hg, ho⟩ := hc
  obtain ⟨p, s⟩ := F.s1
  exact ⟨oa, ho, fun H' e σ te h => ev_sl h (slt_ex hs e) F.sc s rfl⟩
theorem ev_prop (ha : Ev ta σ H (.ref a)) (hc : CirAt C H a gs os) (hs : SpV sp [.ref a] H z) : Ev (tPropSl C sp E0 ta) σ H z := fun H1 e Q q =>
  ha H1 e _ fun H2 e2 => by
    obtain ⟨dx, ga, oa, h1, _, _⟩ := hc.ex (e.trans e2)
    exact ⟨a, dx, _, rfl, h1, hs H2 (e.trans e2) Q (fun H3 e3 => q H3 (e2.trans e3)) E0⟩
theorem evp_prop {R : V → Hp → Prop} (ha : Ev ta σ H (.ref a)) (hc : CirAt C H a gs os) (hs : SpP sp [.ref a] H R) : EvP (tPropSl C sp E0 ta) σ H R := fun H1 e Q q =>
  ha H1 e _ fun H2 e2 => by
    obtain ⟨dx, ga, oa, h1, _, _⟩ := hc.ex (e.trans e2)
    exact ⟨a, dx, _, rfl, h1, hs H2 (e.trans e2) Q (fun v H3 e3 hv => q v H3 (e2.trans e3) hv) E0⟩
theorem evp_meth {R : V → Hp → Prop} (ha : Ev ta σ H (.ref a)) (hc : CirAt C H a gs os) (hv : EvA tas σ H vs) (hs : SpP sp (.ref a :: vs) H R) : EvP (tMethSl C sp E0 ta tas) σ H R := fun H1 e Q q =>
  ha H1 e _ fun H2 e2 => by
    obtain ⟨dx, ga, oa, h1, _, _⟩ := hc.ex (e.trans e2)
    exact ⟨a, dx, _, rfl, h1, hv H2 (e.trans e2) _ fun H3 e3 => hs H3 ((e.trans e2).trans e3) Q (fun v H4 e4 hv => q v H4 ((e2.trans e3).trans e4) hv) E0⟩
/-! ### what is known by its data -/
def DpV (K : PySem.W.Frag) (d : PyData) : V → Hp → Prop := fun v H => Dp K H v d
theorem dpAll_ex {ds : List PyData} {xs : List V} (h : DpAll K H xs ds) (e : Ex H H') : DpAll K H' xs ds := by
  induction xs generalizing ds with
  | nil => cases h; exact .nil
  | cons x xs ih => cases h with | cons h1 h2 => exact .cons (dp_ex h1 e) (ih h2)
def EvAP (K : PySem.W.Frag) (ta : TA) (σ : L2.St) (H : Hp) (ds : List PyData) : Prop := ∀ H1, Ex H H1 → ∀ Q : List V → Hp → Prop, (∀ vs H2, Ex H1 H2 → DpAll K H2 vs ds → Q vs H2) → ta σ H1 Q
theorem eap_nil : EvAP K tNil σ H [] := fun H1 e Q q => q [] H1 (Ex.refl H1) .nil
theorem eap_cons {tr : TA} {d : PyData} {ds : List PyData} (h : EvP te σ H (DpV K d)) (hr : EvAP K tr σ H ds) : EvAP K (tCons te tr) σ H (d :: ds) := fun H1 e Q q =>
  h H1 e _ fun v H2 e2 hv => hr H2 (e.trans e2) _ fun vs H3 e3 hvs => q _ H3 (e2.trans e3) (.cons (dp_ex hv e3) hvs)
theorem dpAll_len {ds : List PyData} {xs : List V} (h : DpAll K H xs ds) : xs.length = ds.length := by
  induction xs generalizing ds with
  | nil => cases h; rfl
  | cons x xs ih => cases h with | cons h1 h2 => exact congrArg Nat.succ (ih h2)
theorem evp_tupD {ds : List PyData} (h : EvAP K tas σ H ds) (hl : ds.length ≤ 100000) : EvP (tTup tas) σ H (DpV K (.tuple ds)) := fun H1 e Q q =>
  h H1 e _ fun vs H2 e2 hv => ⟨sz_of (by rw [dpAll_len hv]; exact hl), fun p hp => q _ _ (e2.trans (Ex.new hp)) (.tup (st_of upd_same) (dpAll_ex hv (Ex.new hp)))⟩
theorem evp_lstD {ds : List PyData} (h : EvAP K tas σ H ds) (hl : ds.length ≤ 100000) : EvP (tLst tas) σ H (DpV K (.list ds)) := fun H1 e Q q =>
  h H1 e _ fun vs H2 e2 hv => ⟨sz_of (by rw [dpAll_len hv]; exact hl), fun p hp => q _ _ (e2.trans (Ex.new hp)) (.lst (sq_of upd_same) (dpAll_ex hv (Ex.new hp)))⟩
/-- == and != of data -/
theorem ev_eqP {d e : PyData} (ha : EvP ta σ H (DpV K d)) (hb : EvP tb σ H (DpV K e)) (sx : SeqAt.shaped d = true) (sy : SeqAt.shaped e = true) : Ev (tOp (rEqD K) ta tb) σ H (.bl (PyData.eqv d e)) := fun H1 e1 Q q =>
  ha H1 e1 _ fun x H2 e2 hx => hb H2 (e1.trans e2) _ fun y H3 e3 hy => ⟨d, e, dp_ex hx e3, hy, sx, sy, q H3 (e2.trans e3)⟩
theorem ev_neP {d e : PyData} (ha : EvP ta σ H (DpV K d)) (hb : EvP tb σ H (DpV K e)) (sx : SeqAt.shaped d = true) (sy : SeqAt.shaped e = true) : Ev (tOp (rNeD K) ta tb) σ H (.bl (!PyData.eqv d e)) := fun H1 e1 Q q =>
  ha H1 e1 _ fun x H2 e2 hx => hb H2 (e1.trans e2) _ fun y H3 e3 hy => ⟨d, e, dp_ex hx e3, hy, sx, sy, q H3 (e2.trans e3)⟩
theorem ev_nePs {n : Nat} {d : PyData} (ha : EvP ta σ H (DpV K d)) (hb : EvP tb σ H (DpV K d)) (s : Sh n d) (hn : n ≤ 64) : Ev (tOp (rNeD K) ta tb) σ H (.bl false) := by
  have h := ev_neP ha hb (s.ok hn) (s.ok hn)
  rw [eqv_self s] at h
  exact h
theorem ev_eqPs {n : Nat} {d : PyData} (ha : EvP ta σ H (DpV K d)) (hb : EvP tb σ H (DpV K d)) (s : Sh n d) (hn : n ≤ 64) : Ev (tOp (rEqD K) ta tb) σ H (.bl true) := by
  have h := ev_eqP ha hb (s.ok hn) (s.ok hn)
  rw [eqv_self s] at h
  exact h
theorem evp_dp {v : V} {d : PyData} (h : Ev te σ H v) (hd : Dp K H v d) : EvP te σ H (DpV K d) := evp_of h fun H2 e => dp_ex hd e
theorem tupV_dp {ns : List Nat} {v : V} (h : TupV (nis ns) v H) : Dp K H v (nisD ns) := by
  obtain ⟨p, rfl, hp⟩ := h
  exact dp_nis hp
theorem evp_nis {ns : List Nat} (h : EvU te σ H (nis ns)) : EvP te σ H (DpV K (nisD ns)) := (evp_U h).imp fun v H2 e hv => tupV_dp hv
/-! ### arguments told by a word -/
def EvAR (ta : TA) (σ : L2.St) (H : Hp) (R : List V → Hp → Prop) : Prop := ∀ H1, Ex H H1 → ∀ Q : List V → Hp → Prop, (∀ vs H2, Ex H1 H2 → R vs H2 → Q vs H2) → ta σ H1 Q
def ExS (R : V → Hp → Prop) : Prop := ∀ v H H', Ex H H' → R v H → R v H'
theorem ear_nil : EvAR tNil σ H (fun vs _ => vs = []) := fun H1 e Q q => q [] H1 (Ex.refl H1) rfl
theorem ear_cons {tr : TA} {R1 : V → Hp → Prop} {R2' : List V → Hp → Prop} (s : ExS R1) (h : EvP te σ H R1) (hr : EvAR tr σ H R2') : EvAR (tCons te tr) σ H (fun vs H => ∃ v ws, vs = v :: ws ∧ R1 v H ∧ R2' ws H) := fun H1 e Q q =>
  h H1 e _ fun v H2 e2 hv => hr H2 (e.trans e2) _ fun vs H3 e3 hvs => q _ H3 (e2.trans e3) ⟨v, vs, rfl, s _ _ _ e3 hv, hvs⟩
theorem EvAR.imp {R R' : List V → Hp → Prop} (h : EvAR tas σ H R) (k : ∀ v H2, Ex H H2 → R v H2 → R' v H2) : EvAR tas σ H R' := fun H1 e Q q => h H1 e Q fun v H2 e2 hv => q v H2 e2 (k v H2 (e.trans e2) hv)
theorem ear_of {xs : List V} (h : EvA tas σ H xs) : EvAR tas σ H (fun vs _ => vs = xs) := fun H1 e Q q => h H1 e Q fun H2 e2 => q xs H2 e2 rfl
theorem evp_callR {R : List V → Hp → Prop} {R' : V → Hp → Prop} (h : EvAR tas σ H R) (hs : ∀ vs H1, Ex H H1 → R vs H1 → SpP sp vs H1 R') : EvP (tCall sp [] E0 tas) σ H R' := fun H1 e Q q =>
  h H1 e _ fun vs H2 e2 hr => (by
    rw [List.append_nil]
    exact hs vs H2 (e.trans e2) hr H2 (Ex.refl H2) Q (fun v H3 e3 hv => q v H3 (e2.trans e3) hv) E0)
theorem evp_var {i : Nat} {v : V} {R : V → Hp → Prop} (h : σ[i]? = some (some v)) (hR : ∀ H1, Ex H H1 → R v H1) : EvP (tVar i) σ H R := fun H1 e Q q => ⟨v, h, q v H1 (Ex.refl H1) (hR H1 e)⟩
end
end Ec
set_option maxRecDepth 100000
set_option maxHeartbeats 4000000
/-! the dice: a list of three ints, of which no more is told -/
namespace Ec
open PySem PySem.Spec PyProof.Rows L2 Evl SlX
def DiceO (d : Addr) : HO := .ext fun h => ∃ (x b c : Int) (its : List Value) (n : Nat), Vals [V.int x, .int b, .int c] its ∧ h.get? d = some { cls := .type "list", data := .seq its.toArray n }
def Dice (H : Hp) (d : Addr) : Prop := H d = some (DiceO d)
def TriV (H : Hp) (d : Addr) : Prop := ∃ x b c : Int, H d = some (.lst [.int x, .int b, .int c])
theorem Dice.ex {H H' : Hp} {d : Addr} (h : Dice H d) (e : Ex H H') : Dice H' d := e _ _ h
/-- all but d stays -/
def Off (d : Addr) (H H' : Hp) : Prop := ∀ a o, a ≠ d → H a = some o → H' a = some o
theorem off_of {d : Addr} {H H' : Hp} (e : Ex H H') : Off d H H' := fun a o _ h => e a o h
theorem Off.trans {d : Addr} {H H1 H2 : Hp} (a : Off d H H1) (b : Off d H1 H2) : Off d H H2 := fun x o n h => b x o n (a x o n h)
theorem off_upd {d : Addr} {H : Hp} {o : HO} : Off d H (upd H d o) := fun a u n h => by
  rw [upd_ne n]
  exact h
section
variable {P : Program} {w : World} {H : Hp} {h : Heap} {d : Addr}
theorem dice_lst {x b c : Int} (ok : ObjOk P w H h d (.lst [.int x, .int b, .int c])) (H' : Hp) : ObjOk P w H' h d (DiceO d) := by
  obtain ⟨_, its, n, r, e⟩ := ok
  exact ⟨⟨x, b, c, its, n, r, e⟩, ⟨_, e⟩, fun h1 h2 ⟨x, b, c, its, n, r, e⟩ st => ⟨x, b, c, its, n, r, st _ e⟩⟩
theorem lst_dice (ok : ObjOk P w H h d (DiceO d)) : ∃ x b c : Int, ∀ H' : Hp, ObjOk P w H' h d (.lst [.int x, .int b, .int c]) := by
  obtain ⟨⟨x, b, c, its, n, r, e⟩, _, _⟩ := ok
  refine ⟨x, b, c, fun H' => ⟨?_, its, n, r, e⟩⟩
  show 3 ≤ sizeLine
  rw [sizeLine_eq]
  omega
/-- the promise on the list itself gives the promise on the dice -/
theorem dice_fn {K : PySem.W.Frag} {mg : Str → Option Value} {base : Heap} {k : Nat} {f : Addr} {fd : FuncData} {ps : List Str} {A0 : Hp → Addr → List V → Prop} {R : List V → V → Prop} (hl : ∀ H d vs, A0 H d vs → vs.length + 1 = ps.length) (hA : ∀ H H' d vs, Off d H H' → A0 H d vs → A0 H' d vs)
    (F : FnOk P w K mg base CX0 k f fd ps (fun vs H Q _ => ∃ (d : Addr) (ws : List V), vs = .ref d :: ws ∧ TriV H d ∧ A0 H d ws ∧ ∀ v H', Off d H H' → TriV H' d → R ws v → Q v H')) :
    FnOk P w K mg base CX0 k f fd ps (fun vs H Q _ => ∃ (d : Addr) (ws : List V), vs = .ref d :: ws ∧ Dice H d ∧ A0 H d ws ∧ ∀ v H', Ex H H' → R ws v → Q v H') := by
  refine ⟨fun vs H Q E h => ?_, fun A outer s H args us vs Q E hr e0 hb hv h => ?_⟩
  · obtain ⟨d, ws, rfl, _, h, _⟩ := h
    exact hl _ _ _ h
  · obtain ⟨d, ws, rfl, hd, ha, k⟩ := h
    obtain ⟨x, b, c, okd⟩ := lst_dice (e0.hok d _ hd)
    have hdn : ∀ a, H a = none → a ≠ d := fun a ha z => by
      rw [z, show H d = _ from hd] at ha
      cases ha
    have mu : Mut (H d) := by
      rw [show H d = _ from hd]
      exact True.intro
    obtain ⟨_, its, n, r, e⟩ := okd H
    have e0c : Env0 P w K mg base A outer s (upd H d (.lst [.int x, .int b, .int c])) :=
      ⟨e0.frames, e0.mod, fun b o hb => ⟨(e0.bs b o hb).1, by rw [upd_ne (hdn b (e0.bs b o hb).2)]; exact (e0.bs b o hb).2⟩, e0.bsz, e0.funs, fun b hb => by rw [upd_ne (hdn b (e0.frf b hb))]; exact e0.frf b hb,
        e0.hok.write mu (.inl rfl) (fun _ _ _ q => q) ⟨_, e⟩ (okd _), e0.bare⟩
    refine codeAny_mono (F.run A outer s _ args us (.ref d :: ws) (fun v H' => TriV H' d ∧ R ws v ∧ Off d H H') E hr e0c hb hv ⟨d, ws, rfl, ⟨x, b, c, upd_same⟩, hA _ _ _ _ off_upd ha, fun v H' o t q => ⟨t, q, off_upd.trans o⟩⟩) fun r s' hq => ?_
    cases r with
    | error e => exact hq
    | ok fl =>
      cases fl with
      | ret u =>
        obtain ⟨v, H', h1, h2, un, hok, rv, ⟨x', b', c', ht⟩, hR, hO⟩ := hq
        have mu' : Mut (H' d) := by
          rw [ht]
          exact True.intro
        have okl := hok d _ ht
        have okl2 := okl
        obtain ⟨_, its', n', r', e'⟩ := okl2
        have hn : ∀ b o, H b = some o → (∀ φ, o ≠ .ext φ) → b ≠ d := fun b o hb ho z => by
          rw [z, show H d = _ from hd] at hb
          cases hb
          exact ho _ rfl
        refine ⟨v, upd H' d (DiceO d), h1, h2, ⟨fun b o hb hn hf hx => ?_, fun b o hb hn hf hx => ?_, fun b o hb hn hx => ?_, fun b o hb hx => un.there b o hb hx, fun b xs hb => ?_, fun b o u hb => ?_, fun b ps hb => ?_⟩, hok.write mu' (.inl rfl) (fun _ _ _ q => q) ⟨_, e'⟩ (dice_lst okl _), rv, k v _ (fun a o hao => ?_) hR⟩
        · exact un.keep b o hb (by rw [upd_ne (hdn b hn)]; exact hn) hf hx
        · exact un.slot b o hb (by rw [upd_ne (hdn b hn)]; exact hn) hf hx
        · rw [upd_ne (hdn b hn)]
          exact un.free b o hb (by rw [upd_ne (hdn b hn)]; exact hn) hx
        · have z := hn b _ hb fun φ h => nomatch h
          rw [upd_ne z]
          exact un.tups b xs (by rw [upd_ne z]; exact hb)
        · have z := hn b _ hb fun φ h => nomatch h
          rw [upd_ne z]
          exact un.frzs b o u (by rw [upd_ne z]; exact hb)
        · have z := hn b _ hb fun φ h => nomatch h
          rw [upd_ne z]
          exact un.tbls b ps (by rw [upd_ne z]; exact hb)
        · by_cases z : a = d
          · subst z
            rw [show H a = _ from hd] at hao
            rw [upd_same]
            exact hao
          · rw [upd_ne z]
            exact hO a o z hao
      | next => exact hq
      | brk => exact hq
      | cont => exact hq
/-- a list of three ints made: a dice made -/
theorem dice_mk {K : PySem.W.Frag} {mg : Str → Option Value} {base : Heap} {k : Nat} {f : Addr} {fd : FuncData} {ps : List Str} {A0 : Hp → List V → Prop}
    (F : FnOk P w K mg base CX0 k f fd ps (fun vs H Q _ => A0 H vs ∧ ∀ d H', H d = none → Ex H H' → TriV H' d → Q (.ref d) H')) :
    FnOk P w K mg base CX0 k f fd ps (fun vs H Q _ => A0 H vs ∧ ∀ d H', Ex H H' → Dice H' d → Q (.ref d) H') := by
  refine ⟨fun vs H Q E h => F.len vs H (fun _ _ => True) E ⟨h.1, fun _ _ _ _ _ => True.intro⟩, fun A outer s H args us vs Q E hr e0 hb hv h => ?_⟩
  refine codeAny_mono (F.run A outer s H args us vs (fun v H' => ∃ d, v = .ref d ∧ H d = none ∧ TriV H' d ∧ Ex H H') E hr e0 hb hv ⟨h.1, fun d H' n e t => ⟨d, rfl, n, t, e⟩⟩) fun r s' hq => ?_
  cases r with
  | error e => exact hq
  | ok fl =>
    cases fl with
    | ret u =>
      obtain ⟨v, H', h1, h2, un, hok, rv, d, rfl, hn, ⟨x', b', c', ht⟩, hE⟩ := hq
      have mu' : Mut (H' d) := by
        rw [ht]
        exact True.intro
      have okl := hok d _ ht
      have okl2 := okl
      obtain ⟨_, its', n', r', e'⟩ := okl2
      exact ⟨.ref d, upd H' d (DiceO d), h1, h2, un.trans (Un.write mu' (.inl rfl) (fun _ _ _ q => q) ⟨_, e'⟩), hok.write mu' (.inl rfl) (fun _ _ _ q => q) ⟨_, e'⟩ (dice_lst okl _), rv, h.2 d _ (Ex.mut hE hn) upd_same⟩
    | next => exact hq
    | brk => exact hq
    | cont => exact hq
end
section
variable {P : Program} {w : World} {K : PySem.W.Frag} {mg : Str → Option Value} {base : Heap}
theorem Cal.conv {k : Nat} {x : Str} {ps : List Str} {sp sp' : Sp} (C : Cal P w K mg base k x ps sp) (h : ∀ f fd, FnOk P w K mg base CX0 k f fd ps sp → FnOk P w K mg base CX0 k f fd ps sp') : Cal P w K mg base k x ps sp' := by
  obtain ⟨f, fd, F, r⟩ := C.ex
  exact ⟨f, fd, h f fd F, r⟩
theorem Cal.imp {k : Nat} {x : Str} {ps : List Str} {sp sp' : Sp} (C : Cal P w K mg base k x ps sp) (h : ∀ vs H Q E, sp' vs H Q E → sp vs H Q E) : Cal P w K mg base k x ps sp' := C.conv fun f fd F => F.imp h
variable {σ : L2.St} {H : Hp} {ta tb te : TE}
/-- int(..) -/
def rInt1 : List V → Hp → VK → Prop := fun xs H Q => (∃ i, xs = [.int i] ∧ Q (.int i) H) ∨ ∃ k, xs = [.bl k] ∧ Q (.int (if k then 1 else 0)) H
theorem ev_intI {i : Int} (h : Ev ta σ H (.int i)) : Ev (tCB rInt1 (tCons ta tNil)) σ H (.int i) := fun H1 e Q q => h H1 e _ fun H2 e2 => .inl ⟨i, rfl, q H2 e2⟩
theorem ev_intB {b : Bool} (h : Ev ta σ H (.bl b)) : Ev (tCB rInt1 (tCons ta tNil)) σ H (.int (if b then 1 else 0)) := fun H1 e Q q => h H1 e _ fun H2 e2 => .inr ⟨b, rfl, q H2 e2⟩
def rAbs : List V → Hp → VK → Prop := fun xs H Q => ∃ i, xs = [.int i] ∧ Q (.int (if i < 0 then -i else i)) H
theorem ev_abs {i : Int} (h : Ev ta σ H (.int i)) : Ev (tCB rAbs (tCons ta tNil)) σ H (.int (if i < 0 then -i else i)) := fun H1 e Q q => h H1 e _ fun H2 e2 => ⟨i, rfl, q H2 e2⟩
/-- a def on dice by its promise -/
theorem spp_dice {A0 : Hp → Addr → List V → Prop} {R : List V → V → Prop} (hA : ∀ H H' d vs, Ex H H' → A0 H d vs → A0 H' d vs) {d : Addr} {ws : List V} (hd : Dice H d) (ha : A0 H d ws) :
    SpP (fun vs H Q _ => ∃ (d : Addr) (ws : List V), vs = .ref d :: ws ∧ Dice H d ∧ A0 H d ws ∧ ∀ v H', Ex H H' → R ws v → Q v H') (.ref d :: ws) H (fun v _ => R ws v) := fun H1 e Q q E => ⟨d, ws, rfl, hd.ex e, hA _ _ _ _ e ha, fun v H2 e2 hv => q v H2 e2 hv⟩
/-! ### results told by a word -/
theorem evp_if {t : TT} {b : Bool} {R : V → Hp → Prop} (h : EvT t σ H b) (h1 : b = true → EvP ta σ H R) (h2 : b = false → EvP tb σ H R) : EvP (tIf t ta tb) σ H R := fun H1 e Q q => h H1 e _ fun H2 e2 => by
  cases b with
  | true =>
    show ta σ H2 Q
    exact h1 rfl H2 (e.trans e2) Q fun v H3 e3 hv => q v H3 (e2.trans e3) hv
  | false =>
    show tb σ H2 Q
    exact h2 rfl H2 (e.trans e2) Q fun v H3 e3 hv => q v H3 (e2.trans e3) hv
theorem evp_op {r : R2} {R1 R2' R : V → Hp → Prop} (ha : EvP ta σ H R1) (s1 : ∀ v H H', Ex H H' → R1 v H → R1 v H') (hb : EvP tb σ H R2') (hr : ∀ x y H2, Ex H H2 → R1 x H2 → R2' y H2 → ∃ z, RV r x y H2 z ∧ ∀ H3, Ex H2 H3 → R z H3) : EvP (tOp r ta tb) σ H R := fun H1 e Q q =>
  ha H1 e _ fun x H2 e2 hx => hb H2 (e.trans e2) _ fun y H3 e3 hy => by
    obtain ⟨z, hz, hR⟩ := hr x y H3 ((e.trans e2).trans e3) (s1 _ _ _ e3 hx) hy
    exact hz H3 (Ex.refl H3) Q fun H4 e4 => q z H4 ((e2.trans e3).trans e4) (hR H4 e4)
/-- a number that p tells -/
def VN (p : Nat → Prop) : V → Hp → Prop := fun v _ => ∃ n, v = ni n ∧ p n
theorem vn_ex {p : Nat → Prop} : ∀ v H H', Ex H H' → VN p v H → VN p v H' := fun _ _ _ _ h => h
theorem evp_n {n : Nat} {p : Nat → Prop} (h : Ev te σ H (ni n)) (hp : p n) : EvP te σ H (VN p) := evp_of h fun _ _ => ⟨n, rfl, hp⟩
theorem evp_addN {p q r : Nat → Prop} (ha : EvP ta σ H (VN p)) (hb : EvP tb σ H (VN q)) (h : ∀ a b, p a → q b → r (a + b)) : EvP (tOp (rI0 fun i j => .int (i + j)) ta tb) σ H (VN r) := evp_op ha vn_ex hb fun x y H2 e hx hy => by
  obtain ⟨a, rfl, ha⟩ := hx
  obtain ⟨b, rfl, hb⟩ := hy
  exact ⟨ni (a + b), rv_I0, fun _ _ => ⟨_, rfl, h a b ha hb⟩⟩
theorem evp_subN {p q r : Nat → Prop} (ha : EvP ta σ H (VN p)) (hb : EvP tb σ H (VN q)) (h : ∀ a b, p a → q b → b ≤ a ∧ r (a - b)) : EvP (tOp (rI0 fun i j => .int (i - j)) ta tb) σ H (VN r) := evp_op ha vn_ex hb fun x y H2 e hx hy => by
  obtain ⟨a, rfl, ha⟩ := hx
  obtain ⟨b, rfl, hb⟩ := hy
  obtain ⟨h1, h2⟩ := h a b ha hb
  have e : V.int ((a : Int) - (b : Int)) = ni (a - b) := by
    unfold ni
    congr 1
    omega
  refine ⟨ni (a - b), ?_, fun _ _ => ⟨_, rfl, h2⟩⟩
  rw [← e]
  exact rv_I0
/-- arguments told one by one -/
def EvAT {α : Type} (P : α → V → Hp → Prop) (ta : TA) (σ : L2.St) (H : Hp) (ks : List α) : Prop := ∀ H1, Ex H H1 → ∀ Q : List V → Hp → Prop, (∀ vs H2, Ex H1 H2 → Told P ks vs H2 → Q vs H2) → ta σ H1 Q
theorem Told.cons {α : Type} {P : α → V → Hp → Prop} {k : α} {ks : List α} {v : V} {vs : List V} (h : P k v H) (t : Told P ks vs H) : Told P (k :: ks) (v :: vs) H := ⟨congrArg Nat.succ t.1, fun j k' v' a b => by
  cases j with
  | zero => cases a; cases b; exact h
  | succ j => exact t.2 j k' v' a b⟩
theorem eat_nil {α : Type} {P : α → V → Hp → Prop} : EvAT P tNil σ H [] := fun H1 e Q q => q [] H1 (Ex.refl H1) Told.nil
theorem eat_cons {α : Type} {P : α → V → Hp → Prop} {tr : TA} {k : α} {ks : List α} (s : Steady P) (h : EvP te σ H (P k)) (hr : EvAT P tr σ H ks) : EvAT P (tCons te tr) σ H (k :: ks) := fun H1 e Q q =>
  h H1 e _ fun v H2 e2 hv => hr H2 (e.trans e2) _ fun vs H3 e3 hvs => q _ H3 (e2.trans e3) (Told.cons (s _ _ _ _ (ext_of e3) hv) hvs)
theorem el_lstT {α : Type} {P : α → V → Hp → Prop} {tas : TA} {ks : List α} (s : Steady P) (h : EvAT P tas σ H ks) (hl : ks.length ≤ 100000) : EvLP (tLst tas) σ H (Told P ks) := fun H1 e Q q =>
  h H1 e _ fun vs H2 e2 hv => ⟨sz_of (by rw [hv.1]; exact hl), fun p hp => q p vs _ (fresh_back e2 hp) (e2.trans (Ex.new hp)) upd_same (hv.ext s (ext_of (Ex.new hp)))⟩
theorem eu_tupT {α : Type} {P : α → V → Hp → Prop} {tas : TA} {ks : List α} (s : Steady P) (h : EvAT P tas σ H ks) (hl : ks.length ≤ 100000) : EvUP (tTup tas) σ H (Told P ks) := fun H1 e Q q =>
  h H1 e _ fun vs H2 e2 hv => ⟨sz_of (by rw [hv.1]; exact hl), fun p hp => q p vs _ (fresh_back e2 hp) (e2.trans (Ex.new hp)) upd_same (hv.ext s (ext_of (Ex.new hp)))⟩
theorem Told.mem {α : Type} {P : α → V → Hp → Prop} {ks : List α} {vs : List V} (t : Told P ks vs H) {v : V} (h : v ∈ vs) : ∃ k ∈ ks, P k v H := by
  obtain ⟨j, hj⟩ := List.mem_iff_getElem?.mp h
  have hl := (List.getElem?_eq_some_iff.mp hj).1
  have hk := List.getElem?_eq_getElem (l := ks) (i := j) (by rw [← t.1]; exact hl)
  exact ⟨_, List.mem_of_getElem? hk, t.2 j _ v hk hj⟩
end
end Ec
set_option maxRecDepth 100000
set_option maxHeartbeats 4000000
/-! the program's defs: numbers and fields -/
namespace Ec
open PySem PySem.Spec PyProof.Rows L2 Evl SlX
def top (i : Nat) : Stmt := PySem.Challenge.pw_evencoins_k23_whole_numbers_of_gates.main.body.getD i (.Pass ⟨0, 0, 0, 0⟩)
/-- a def of the text, its global name -/
structure FunX (K : PySem.W.Frag) (mg : Str → Option Value) (g x qual : Str) (st : Stmt) (ps : List Str) : Prop where
  ex : ∃ (f : Addr) (fd : FuncData), Fun K x qual st f fd ∧ mg g = some (.ref f) ∧ Binds K fd ps []
section
variable {P : Program} {w : World} {K : PySem.W.Frag} {mg : Str → Option Value} {base : Heap}
theorem Cal.mk' {k : Nat} {g x qual : Str} {st : Stmt} {N ps : List Str} {sp : Sp} (FX : FunX K mg g x qual st ps) (S : FnScope N ps (defScope st)) (len : ∀ vs H Q E, sp vs H Q E → vs.length = ps.length)
    (hbody : ∀ (f : Addr) (cdv : Value) (A : Around) (outer : List Env) (s : Shared) (H : Hp) (vs : List V) (Q : VK) (E : XK), Room k (A.deeper (envOfC qual (defScope st) s.heap.objs.size f cdv)) → sp vs H Q E →
      ∃ t, PSs (cxOf CX0 P w K mg base N qual (defScope st) f cdv A outer s H E).nox (defBody st) t ∧ t { nx := fun _ H' => Q .non H', rt := Q } (start N vs) H) : Cal P w K mg base (k + 1) g ps sp := by
  obtain ⟨f, fd, F, hm, hb⟩ := FX.ex
  exact ⟨f, fd, F.ok S len (hbody f), hm, F.kp, hb⟩
theorem Cal.mono {j k : Nat} {g : Str} {ps : List Str} {sp : Sp} (C : Cal P w K mg base j g ps sp) (h : j ≤ k) : Cal P w K mg base k g ps sp := by
  obtain ⟨f, fd, F, r⟩ := C.ex
  exact ⟨f, fd, F.mono h, r⟩

abbrev s_is_integer : Stmt := top 9
abbrev N_is_integer : List Str := ["value"]
theorem sc_is_integer : FnScope N_is_integer ["value"] (defScope s_is_integer) := ⟨rfl, rfl, rfl, by decide +kernel, rfl, by decide +kernel, by decide +kernel⟩
abbrev s_is_within : Stmt := top 10
abbrev N_is_within : List Str := ["value", "least", "most"]
theorem sc_is_within : FnScope N_is_within ["value", "least", "most"] (defScope s_is_within) := ⟨rfl, rfl, rfl, by decide +kernel, rfl, by decide +kernel, by decide +kernel⟩
abbrev s_is_field : Stmt := top 13
abbrev N_is_field : List Str := ["value", "part"]
theorem sc_is_field : FnScope N_is_field ["value"] (defScope s_is_field) := ⟨rfl, rfl, rfl, by decide +kernel, rfl, by decide +kernel, by decide +kernel⟩
abbrev s_require_field : Stmt := top 11
abbrev N_require_field : List Str := ["value"]
theorem sc_require_field : FnScope N_require_field ["value"] (defScope s_require_field) := ⟨rfl, rfl, rfl, by decide +kernel, rfl, by decide +kernel, by decide +kernel⟩
abbrev s_is_number : Stmt := top 14
abbrev N_is_number : List Str := ["field", "value"]
theorem sc_is_number : FnScope N_is_number ["field", "value"] (defScope s_is_number) := ⟨rfl, rfl, rfl, by decide +kernel, rfl, by decide +kernel, by decide +kernel⟩
abbrev s_is_from : Stmt := top 27
abbrev N_is_from : List Str := ["value", "least", "most"]
theorem sc_is_from : FnScope N_is_from ["value", "least", "most"] (defScope s_is_from) := ⟨rfl, rfl, rfl, by decide +kernel, rfl, by decide +kernel, by decide +kernel⟩
def spInt : Sp := fun vs H Q _ => ∃ i : Int, vs = [.int i] ∧ RetV (.bl true) H Q
def spWith : Sp := fun vs H Q _ => ∃ v l m : Int, vs = [.int v, .int l, .int m] ∧ RetV (.bl (decide (l ≤ v) && decide (v ≤ m))) H Q
theorem cal_is_integer (G : Glo mg) (F : FunX K mg "is_integer" "is_integer" "is_integer" s_is_integer ["value"]) : Cal P w K mg base 1 "is_integer" ["value"] spInt := by
  refine Cal.mk' F sc_is_integer (fun vs H Q E h => ?_) (fun f cdv A outer s H vs Q E hr h => ?_)
  · obtain ⟨i, rfl, _⟩ := h
    rfl
  · obtain ⟨i, rfl, k⟩ := h
    refine ⟨_, (pss_one (ps_ret (pe_and (pe_callB call_isi (by rfl) G.isinstance (by decide +kernel) (pa_cons (pv 0) (pa_cons (pe_ty "int" rfl G.int (by decide +kernel)) pa_nil))) (pe_one (pe_not (pe_callB call_isi (by rfl) G.isinstance (by decide +kernel) (pa_cons (pv 0) (pa_cons (pe_ty "bool" rfl G.bool (by decide +kernel)) pa_nil)))))))), ?_⟩
    exact s_ret (ev_andV (ev_isi_int (ev_var rfl) kb_int_int) fun _ => ev_notV (ev_isi_int (ev_var rfl) kb_int_bool)) k
theorem cal_is_from (G : Glo mg) (F : FunX K mg "is_from" "is_from" "is_from" s_is_from ["value", "least", "most"]) : Cal P w K mg base 1 "is_from" ["value", "least", "most"] spWith := by
  refine Cal.mk' F sc_is_from (fun vs H Q E h => ?_) (fun f cdv A outer s H vs Q E hr h => ?_)
  · obtain ⟨v, l, m, rfl, _⟩ := h
    rfl
  · obtain ⟨v, l, m, rfl, k⟩ := h
    refine ⟨_, (pss_one (ps_ret (pe_and (pe_callB call_isi (by rfl) G.isinstance (by decide +kernel) (pa_cons (pv 0) (pa_cons (pe_ty "int" rfl G.int (by decide +kernel)) pa_nil))) (pe_and (pe_not (pe_callB call_isi (by rfl) G.isinstance (by decide +kernel) (pa_cons (pv 0) (pa_cons (pe_ty "bool" rfl G.bool (by decide +kernel)) pa_nil)))) (pe_one (pe_chain op_le op_le (pv 1) (pv 0) (pv 2))))))), ?_⟩
    exact s_ret (ev_andV (ev_isi_int (ev_var rfl) kb_int_int) fun _ => ev_andV (ev_notV (ev_isi_int (ev_var rfl) kb_int_bool)) fun _ => ev_chain (ev_var rfl) (ev_var rfl) (ev_var rfl) rv_I0 fun _ => rv_I0) k
theorem spv_int (i : Int) (H : Hp) : SpV spInt [.int i] H (.bl true) := fun H1 e Q q E => ⟨i, rfl, q⟩
theorem spv_with {v l m : Int} {H : Hp} {b : Bool} (h : (decide (l ≤ v) && decide (v ≤ m)) = b) : SpV spWith [.int v, .int l, .int m] H (.bl b) := fun H1 e Q q E => ⟨v, l, m, rfl, by rw [h]; exact q⟩
theorem cal_is_within (G : Glo mg) (c_is_integer : Cal P w K mg base 1 "is_integer" ["value"] spInt) (F : FunX K mg "is_within" "is_within" "is_within" s_is_within ["value", "least", "most"]) : Cal P w K mg base 2 "is_within" ["value", "least", "most"] spWith := by
  refine Cal.mk' F sc_is_within (fun vs H Q E h => ?_) (fun f cdv A outer s H vs Q E hr h => ?_)
  · obtain ⟨v, l, m, rfl, _⟩ := h
    rfl
  · obtain ⟨v, l, m, rfl, k⟩ := h
    refine ⟨_, (pss_one (ps_ret (pe_and (pe_cal c_is_integer (hr.mono (by decide)) (by rfl) (pa_cons (pv 0) pa_nil)) (pe_one (pe_chain op_le op_le (pv 1) (pv 0) (pv 2)))))), ?_⟩
    exact s_ret (ev_andV (ev_cal (ea_cons (ev_var rfl) ea_nil) (spv_int v H)) fun _ => ev_chain (ev_var rfl) (ev_var rfl) (ev_var rfl) rv_I0 fun _ => rv_I0) k
/-- a field -/
structure IsF (p : Nat) : Prop where
  lo : 5 ≤ p
  hi : p ≤ 997
  pr : ∀ k, 2 ≤ k → k < p → k < 32 → p % k ≠ 0
theorem isF_of {p : Nat} (h : (decide (5 ≤ p) && decide (p ≤ 997) && (List.range 32).all fun k => decide (k < 2) || decide (p ≤ k) || decide (p % k ≠ 0)) = true) : IsF p := by
  simp only [Bool.and_eq_true, decide_eq_true_eq, List.all_eq_true, Bool.or_eq_true, List.mem_range] at h
  obtain ⟨⟨h1, h2⟩, h3⟩ := h
  refine ⟨h1, h2, fun k k1 k2 k3 => ?_⟩
  rcases h3 k k3 with (q | q) | q
  · omega
  · omega
  · exact q
def spField : Sp := fun vs H Q _ => ∃ p : Nat, vs = [ni p] ∧ IsF p ∧ RetV (.bl true) H Q
theorem cal_is_field (G : Glo mg) (c_is_within : Cal P w K mg base 2 "is_within" ["value", "least", "most"] spWith) (F : FunX K mg "is_field" "is_field" "is_field" s_is_field ["value"]) : Cal P w K mg base 3 "is_field" ["value"] spField := by
  refine Cal.mk' F sc_is_field (fun vs H Q E h => ?_) (fun f cdv A outer s H vs Q E hr h => ?_)
  · obtain ⟨p, rfl, _⟩ := h
    rfl
  · obtain ⟨p, rfl, hp, k⟩ := h
    have h5 := hp.lo
    have h9 := hp.hi
    refine ⟨_, (pss_cons (ps_if (pt_not (pt_val (pe_cal c_is_within (hr.mono (by decide)) (by rfl) (pa_cons (pv 0) (pa_cons (pe_gi G.cLEAST_FIELD rfl) (pa_cons (pe_gi G.cMAX_FIELD rfl) pa_nil)))))) (pss_one (ps_ret pe_bl)) pss_nil)
      (pss_one (ps_ret (pe_callB (cr_all rfl) (by rfl) G.all (by decide +kernel) (pa_cons (pe_lc (own := [("part", 1)]) rfl sc_is_field.nd (pi_range2 (by rfl) G.range (pa_cons pe_int (pa_cons (pe_callB (call_min2 rfl) (by rfl) G.min (by decide +kernel) (pa_cons (pv 0) (pa_cons (pe_gi G.cMOST_PART rfl) pa_nil))) pa_nil))) (blkOk_by (own := [("part", 1)]) (N := N_is_field) (sc := defScope s_is_field) (by decide +kernel)) (fun _ _ _ _ _ => (pg_name (i := 1) sc_is_field.nd rfl (Or.inl rfl) (Or.inr rfl))) (fun _ _ _ _ _ => pts_nil) (fun _ _ _ _ _ => (pe_cmpR op_ne (pe_op op_mod (pv 0) (pv 1)) pe_int (nomark _)))) pa_nil))))), ?_⟩
    refine q_when (b := false) (et_not (et_B (ev_cal (ea_cons (ev_var rfl) (ea_cons ev_c (ea_cons ev_c ea_nil))) (spv_with (b := true) (by simp; omega))))) (fun h => nomatch h) fun _ H1 e1 => ?_
    refine s_ret (ev_allR (b := fun i => !decide (V.int ((p : Int) % (2 + (i : Nat))) = V.int 0)) (el_lcR2 (lo := 2) (hi := if (32 : Int) < (p : Int) then 32 else (p : Int)) (n := ((if (32 : Int) < (p : Int) then 32 else (p : Int)) - 2).toNat) (fun _ => true) _
      (ea_cons ev_c (ea_cons (ev_min2 (ev_var rfl) ev_c) ea_nil)) (by split <;> omega) rfl (fun _ => rfl) (fun _ _ _ _ => et_yes) fun i H2 _ hi _ => ev_op (ev_op (ev_var rfl) (ev_var rfl) (rv_I (by show (0 : Int) < 2 + (i : Nat); omega))) ev_c (rv_ne rfl)) fun i hi => ?_) fun H2 e2 => k H2 (e1.trans e2)
    have h2 : i + 2 < p ∧ i + 2 < 32 := by
      split at hi <;> omega
    have q := hp.pr (i + 2) (by omega) h2.1 h2.2
    have e : (p : Int) % (2 + (i : Nat)) = ((p % (i + 2) : Nat) : Int) := by
      rw [show (2 : Int) + (i : Nat) = ((i + 2 : Nat) : Int) by omega]
      rfl
    rw [e, decide_eq_false (fun z => q (by have := V.int.inj z; omega))]
    rfl
/-- require_field, by any of its global names -/
def spReq : Sp := fun vs H Q _ => ∃ p : Nat, vs = [ni p] ∧ IsF p ∧ RetV .non H Q
theorem spv_field {p : Nat} (hp : IsF p) (H : Hp) : SpV spField [ni p] H (.bl true) := fun H1 e Q q E => ⟨p, rfl, hp, q⟩
theorem spv_req {p : Nat} (hp : IsF p) (H : Hp) : SpV spReq [ni p] H .non := fun H1 e Q q E => ⟨p, rfl, hp, q⟩
theorem cal_require_field (G : Glo mg) (c_is_field : Cal P w K mg base 3 "is_field" ["value"] spField) (F : FunX K mg "require_field_field" "require_field" "require_field" s_require_field ["value"]) : Cal P w K mg base 4 "require_field_field" ["value"] spReq := by
  refine Cal.mk' F sc_require_field (fun vs H Q E h => ?_) (fun f cdv A outer s H vs Q E hr h => ?_)
  · obtain ⟨p, rfl, _⟩ := h
    rfl
  · obtain ⟨p, rfl, hp, k⟩ := h
    refine ⟨_, (pss_one (ps_if (pt_not (pt_val (pe_cal c_is_field (hr.mono (by decide)) (by rfl) (pa_cons (pv 0) pa_nil)))) (pss_one ps_never) pss_nil)), ?_⟩
    exact s_when (b := false) (et_not (et_B (ev_cal (ea_cons (ev_var rfl) ea_nil) (spv_field hp H)))) (fun h => nomatch h) fun _ H1 e1 => k H1 e1
abbrev s_require_field2 : Stmt := top 38
abbrev N_require_field2 : List Str := ["value"]
theorem sc_require_field2 : FnScope N_require_field2 ["value"] (defScope s_require_field2) := ⟨rfl, rfl, rfl, by decide +kernel, rfl, by decide +kernel, by decide +kernel⟩
theorem cal_require_field2 (G : Glo mg) (c_is_field : Cal P w K mg base 3 "is_field" ["value"] spField) (F : FunX K mg "require_field_circuits" "require_field" "require_field" s_require_field2 ["value"]) : Cal P w K mg base 4 "require_field_circuits" ["value"] spReq := by
  refine Cal.mk' F sc_require_field2 (fun vs H Q E h => ?_) (fun f cdv A outer s H vs Q E hr h => ?_)
  · obtain ⟨p, rfl, _⟩ := h
    rfl
  · obtain ⟨p, rfl, hp, k⟩ := h
    refine ⟨_, (pss_one (ps_if (pt_not (pt_val (pe_cal c_is_field (hr.mono (by decide)) (by rfl) (pa_cons (pv 0) pa_nil)))) (pss_one ps_never) pss_nil)), ?_⟩
    exact s_when (b := false) (et_not (et_B (ev_cal (ea_cons (ev_var rfl) ea_nil) (spv_field hp H)))) (fun h => nomatch h) fun _ H1 e1 => k H1 e1
def spNumber : Sp := fun vs H Q _ => ∃ p n : Nat, vs = [ni p, ni n] ∧ IsF p ∧ n < p ∧ RetV (.bl true) H Q
theorem spv_number {p n : Nat} (hp : IsF p) (hn : n < p) (H : Hp) : SpV spNumber [ni p, ni n] H (.bl true) := fun H1 e Q q E => ⟨p, n, rfl, hp, hn, q⟩
theorem cal_is_number (G : Glo mg) (c_is_within : Cal P w K mg base 2 "is_within" ["value", "least", "most"] spWith) (c_require_field_field : Cal P w K mg base 4 "require_field_field" ["value"] spReq) (F : FunX K mg "is_number" "is_number" "is_number" s_is_number ["field", "value"]) :
    Cal P w K mg base 5 "is_number" ["field", "value"] spNumber := by
  refine Cal.mk' F sc_is_number (fun vs H Q E h => ?_) (fun f cdv A outer s H vs Q E hr h => ?_)
  · obtain ⟨p, n, rfl, _⟩ := h
    rfl
  · obtain ⟨p, n, rfl, hp, hn, k⟩ := h
    refine ⟨_, (pss_cons (ps_expr (pe_cal c_require_field_field (hr.mono (by decide)) (by rfl) (pa_cons (pv 0) pa_nil)))
      (pss_one (ps_ret (pe_cal c_is_within (hr.mono (by decide)) (by rfl) (pa_cons (pv 1) (pa_cons pe_int (pa_cons (pe_op op_sub (pv 0) pe_int) pa_nil))))))), ?_⟩
    refine q_drop (ev_cal (ea_cons (ev_var rfl) ea_nil) (spv_req hp H)) fun H1 e1 => ?_
    exact s_ret (ev_cal (ea_cons (ev_var rfl) (ea_cons ev_c (ea_cons (ev_op (ev_var rfl) ev_c rv_I0) ea_nil))) (spv_with (b := true) (by simp; omega))) fun H2 e2 => k H2 (e1.trans e2)
end
end Ec
set_option maxRecDepth 100000
set_option maxHeartbeats 4000000
/-! the program's defs: what circuits are made of -/
namespace Ec
open PySem PySem.Spec PyProof.Rows L2 Evl SlX
section
variable {P : Program} {w : World} {K : PySem.W.Frag} {mg : Str → Option Value} {base : Heap}
abbrev s_is_gate : Stmt := top 28
abbrev N_is_gate : List Str := ["value", "at"]
theorem sc_is_gate : FnScope N_is_gate ["value", "at"] (defScope s_is_gate) := ⟨rfl, rfl, rfl, by decide +kernel, rfl, by decide +kernel, by decide +kernel⟩
abbrev s_are_houses : Stmt := top 29
abbrev N_are_houses : List Str := ["value", "one", "other"]
theorem sc_are_houses : FnScope N_are_houses ["value"] (defScope s_are_houses) := ⟨rfl, rfl, rfl, by decide +kernel, rfl, by decide +kernel, by decide +kernel⟩
abbrev s_is_output : Stmt := top 30
abbrev N_is_output : List Str := ["value", "many"]
theorem sc_is_output : FnScope N_is_output ["value", "many"] (defScope s_is_output) := ⟨rfl, rfl, rfl, by decide +kernel, rfl, by decide +kernel, by decide +kernel⟩
abbrev s_many_of : Stmt := top 31
abbrev N_many_of : List Str := ["gates", "word", "gate"]
theorem sc_many_of : FnScope N_many_of ["gates", "word"] (defScope s_many_of) := ⟨rfl, rfl, rfl, by decide +kernel, rfl, by decide +kernel, by decide +kernel⟩
abbrev s_are_gates : Stmt := top 32
abbrev N_are_gates : List Str := ["value", "at", "gate"]
theorem sc_are_gates : FnScope N_are_gates ["value"] (defScope s_are_gates) := ⟨rfl, rfl, rfl, by decide +kernel, rfl, by decide +kernel, by decide +kernel⟩
abbrev s_are_outputs : Stmt := top 33
abbrev N_are_outputs : List Str := ["value", "many", "one"]
theorem sc_are_outputs : FnScope N_are_outputs ["value", "many"] (defScope s_are_outputs) := ⟨rfl, rfl, rfl, by decide +kernel, rfl, by decide +kernel, by decide +kernel⟩
theorem l22 : decide (V.int ((2 : Nat) : Int) = V.int 2) = true := by decide +kernel
theorem l32 : decide (V.int ((3 : Nat) : Int) = V.int 2) = false := by decide +kernel
def spGate : Sp := fun vs H Q _ => ∃ (a : Addr) (g : G) (n : Nat), vs = [.ref a, ni n] ∧ H a = some (.tup g.vs) ∧ OkG n g ∧ RetV (.bl true) H Q
theorem spv_gate {a : Addr} {g : G} {n : Nat} {H : Hp} (h : H a = some (.tup g.vs)) (ok : OkG n g) : SpV spGate [.ref a, ni n] H (.bl true) := fun H1 e Q q E => ⟨a, g, n, rfl, e _ _ h, ok, q⟩
theorem cal_is_gate (G0 : Glo mg) (c_is_from : Cal P w K mg base 1 "is_from" ["value", "least", "most"] spWith) (F : FunX K mg "is_gate" "is_gate" "is_gate" s_is_gate ["value", "at"]) : Cal P w K mg base 2 "is_gate" ["value", "at"] spGate := by
  have G := G0
  refine Cal.mk' F sc_is_gate (fun vs H Q E h => ?_) (fun f cdv A outer s H vs Q E hr h => ?_)
  · obtain ⟨a, g, n, rfl, _⟩ := h
    rfl
  · obtain ⟨a, g, n, rfl, ha, ok, k⟩ := h
    refine ⟨_, (pss_cons (ps_if (PW.pt (pw_or (pt_not (pt_val (pe_callB call_isi (by rfl) G.isinstance (by decide +kernel) (pa_cons (pv 0) (pa_cons (pe_ty "tuple" rfl G.tuple (by decide +kernel)) pa_nil))))) (pw_or (pt_cmpR op_notIn_seq (pe_callB call_len_seq (by rfl) G.len PySem.boot_len (pa_cons (pv 0) pa_nil)) (pe_tup (pa_cons pe_int (pa_cons pe_int pa_nil))) (by rfl)) (pw_or1 (pt_not (pt_val (pe_callB call_isi (by rfl) G.isinstance (by decide +kernel) (pa_cons (pe_ix ix_tup (pv 0) pe_int (fun _ _ => rfl)) (pa_cons (pe_ty "str" rfl G.str (by decide +kernel)) pa_nil))))))))) (pss_one (ps_ret pe_bl)) pss_nil)
      (pss_cons (ps_if (pt_cmpR op_eq (pe_callB call_len_seq (by rfl) G.len PySem.boot_len (pa_cons (pv 0) pa_nil)) pe_int (nomark _)) (pss_cons (ps_if (pt_cmpR op_eq (pe_ix ix_tup (pv 0) pe_int (fun _ _ => rfl)) (pe_gs G.cINPUT rfl) (nomark _)) (pss_one (ps_ret (pe_cal c_is_from (hr.mono (by decide)) (by rfl) (pa_cons (pe_ix ix_tup (pv 0) pe_int (fun _ _ => rfl)) (pa_cons pe_int (pa_cons (pe_gi G.cMOST_HOUSE rfl) pa_nil)))))) pss_nil)
      (pss_one (ps_ret (pe_and (pe_cmpR op_eq (pe_ix ix_tup (pv 0) pe_int (fun _ _ => rfl)) (pe_gs G.cCONSTANT rfl) (nomark _)) (pe_one (pe_cal c_is_from (hr.mono (by decide)) (by rfl) (pa_cons (pe_ix ix_tup (pv 0) pe_int (fun _ _ => rfl)) (pa_cons pe_int (pa_cons (pe_gi G.cMOST_NUMBER rfl) pa_nil))))))))) pss_nil)
      (pss_cons (ps_if (PW.pt (pw_or (pt_cmpR op_notIn_seq (pe_ix ix_tup (pv 0) pe_int (fun _ _ => rfl)) (pe_tup (pa_cons (pe_gs G.cSUM rfl) (pa_cons (pe_gs G.cMULTIPLE rfl) (pa_cons (pe_gs G.cPRODUCT rfl) pa_nil)))) (by rfl)) (pw_or1 (pt_not (pt_val (pe_cal c_is_from (hr.mono (by decide)) (by rfl) (pa_cons (pe_ix ix_tup (pv 0) pe_int (fun _ _ => rfl)) (pa_cons pe_int (pa_cons (pe_op op_sub (pv 1) pe_int) pa_nil))))))))) (pss_one (ps_ret pe_bl)) pss_nil)
      (pss_one (ps_ret (pe_cal c_is_from (hr.mono (by decide)) (by rfl) (pa_cons (pe_ix ix_tup (pv 0) pe_int (fun _ _ => rfl)) (pa_cons pe_int (pa_cons (pe_ifExp (pt_cmpR op_eq (pe_ix ix_tup (pv 0) pe_int (fun _ _ => rfl)) (pe_gs G.cMULTIPLE rfl) (nomark _)) (pe_gi G.cMOST_NUMBER rfl) (pe_op op_sub (pv 1) pe_int)) pa_nil))))))))), ?_⟩
    have hT := SqT.of (K := K) ha
    cases g with
    | inp h =>
      refine q_when (b := false) (et_is (et_or (et_not (et_B (ev_isi_tup (ev_var rfl) ha kb_tup))) fun _ => et_or (et_test (ev_niU (ev_lenT (ev_var rfl) hT) (eu_tup (ea_cons ev_c (ea_cons ev_c ea_nil)) (by decide)) rfl rfl)) fun _ => et_not (et_B (ev_isi_str (ev_op (ev_var rfl) ev_c (rv_ixT hT rfl)) kb_str))) rfl) (fun h => nomatch h) fun _ H1 e1 => ?_
      have hT := ex_t e1 hT
      refine q_when (b := true) (et_is (et_test (ev_op (ev_lenT (ev_var rfl) hT) ev_c (rv_eq rfl))) l22) (fun _ H2 e2 => ?_) (fun h => nomatch h)
      have hT := ex_t e2 hT
      refine q_when (b := true) (et_is (et_test (ev_op (ev_op (ev_var rfl) ev_c (rv_ixT hT rfl)) ev_c (rv_eq rfl))) (by decide +kernel)) (fun _ H3 e3 => ?_) (fun h => nomatch h)
      have hT := ex_t e3 hT
      exact s_ret (ev_cal (ea_cons (ev_op (ev_var rfl) ev_c (rv_ixT hT rfl)) (ea_cons ev_c (ea_cons ev_c ea_nil))) (spv_with (b := true) (by have := ok.1; have := ok.2; simp; omega))) fun H4 e4 => k H4 (((e1.trans e2).trans e3).trans e4)
    | con c =>
      refine q_when (b := false) (et_is (et_or (et_not (et_B (ev_isi_tup (ev_var rfl) ha kb_tup))) fun _ => et_or (et_test (ev_niU (ev_lenT (ev_var rfl) hT) (eu_tup (ea_cons ev_c (ea_cons ev_c ea_nil)) (by decide)) rfl rfl)) fun _ => et_not (et_B (ev_isi_str (ev_op (ev_var rfl) ev_c (rv_ixT hT rfl)) kb_str))) rfl) (fun h => nomatch h) fun _ H1 e1 => ?_
      have hT := ex_t e1 hT
      refine q_when (b := true) (et_is (et_test (ev_op (ev_lenT (ev_var rfl) hT) ev_c (rv_eq rfl))) l22) (fun _ H2 e2 => ?_) (fun h => nomatch h)
      have hT := ex_t e2 hT
      refine q_when (b := false) (et_is (et_test (ev_op (ev_op (ev_var rfl) ev_c (rv_ixT hT rfl)) ev_c (rv_eq rfl))) (by decide +kernel)) (fun h => nomatch h) (fun _ H3 e3 => ?_)
      have hT := ex_t e3 hT
      exact s_ret (ev_is (ev_andV (ev_op (ev_op (ev_var rfl) ev_c (rv_ixT hT rfl)) ev_c (rv_eq rfl)) fun _ => ev_cal (ea_cons (ev_op (ev_var rfl) ev_c (rv_ixT hT rfl)) (ea_cons ev_c (ea_cons ev_c ea_nil))) (spv_with (b := true) (by have : c ≤ 996 := ok; simp; omega))) (congrArg V.bl (by decide +kernel))) fun H4 e4 => k H4 (((e1.trans e2).trans e3).trans e4)
    | sum i j =>
      refine q_when (b := false) (et_is (et_or (et_not (et_B (ev_isi_tup (ev_var rfl) ha kb_tup))) fun _ => et_or (et_test (ev_niU (ev_lenT (ev_var rfl) hT) (eu_tup (ea_cons ev_c (ea_cons ev_c ea_nil)) (by decide)) rfl rfl)) fun _ => et_not (et_B (ev_isi_str (ev_op (ev_var rfl) ev_c (rv_ixT hT rfl)) kb_str))) rfl) (fun h => nomatch h) fun _ H1 e1 => ?_
      have hT := ex_t e1 hT
      refine q_when (b := false) (et_is (et_test (ev_op (ev_lenT (ev_var rfl) hT) ev_c (rv_eq rfl))) l32) (fun h => nomatch h) (fun _ H2 e2 => ?_)
      have hT := ex_t e2 hT
      refine q_when (b := false) (et_is (et_or (et_test (ev_niU (ev_op (ev_var rfl) ev_c (rv_ixT hT rfl)) (eu_tup (ea_cons ev_c (ea_cons ev_c (ea_cons ev_c ea_nil))) (by decide)) rfl rfl)) fun _ => et_not (et_B (ev_cal (ea_cons (ev_op (ev_var rfl) ev_c (rv_ixT hT rfl)) (ea_cons ev_c (ea_cons (ev_op (ev_var rfl) ev_c rv_I0) ea_nil))) (spv_with (b := true) (by have := ok.1; simp; omega))))) (by decide +kernel)) (fun h => nomatch h) (fun _ H3 e3 => ?_)
      have hT := ex_t e3 hT
      exact s_ret (ev_cal (ea_cons (ev_op (ev_var rfl) ev_c (rv_ixT hT rfl)) (ea_cons ev_c (ea_cons (ev_if (b := false) (et_is (et_test (ev_op (ev_op (ev_var rfl) ev_c (rv_ixT hT rfl)) ev_c (rv_eq rfl))) (by decide +kernel)) (fun h => nomatch h) fun _ => ev_op (ev_var rfl) ev_c rv_I0) ea_nil))) (spv_with (b := true) (by have := ok.2; simp; omega))) fun H4 e4 => k H4 (((e1.trans e2).trans e3).trans e4)
    | mul i c =>
      refine q_when (b := false) (et_is (et_or (et_not (et_B (ev_isi_tup (ev_var rfl) ha kb_tup))) fun _ => et_or (et_test (ev_niU (ev_lenT (ev_var rfl) hT) (eu_tup (ea_cons ev_c (ea_cons ev_c ea_nil)) (by decide)) rfl rfl)) fun _ => et_not (et_B (ev_isi_str (ev_op (ev_var rfl) ev_c (rv_ixT hT rfl)) kb_str))) rfl) (fun h => nomatch h) fun _ H1 e1 => ?_
      have hT := ex_t e1 hT
      refine q_when (b := false) (et_is (et_test (ev_op (ev_lenT (ev_var rfl) hT) ev_c (rv_eq rfl))) l32) (fun h => nomatch h) (fun _ H2 e2 => ?_)
      have hT := ex_t e2 hT
      refine q_when (b := false) (et_is (et_or (et_test (ev_niU (ev_op (ev_var rfl) ev_c (rv_ixT hT rfl)) (eu_tup (ea_cons ev_c (ea_cons ev_c (ea_cons ev_c ea_nil))) (by decide)) rfl rfl)) fun _ => et_not (et_B (ev_cal (ea_cons (ev_op (ev_var rfl) ev_c (rv_ixT hT rfl)) (ea_cons ev_c (ea_cons (ev_op (ev_var rfl) ev_c rv_I0) ea_nil))) (spv_with (b := true) (by have := ok.1; simp; omega))))) (by decide +kernel)) (fun h => nomatch h) (fun _ H3 e3 => ?_)
      have hT := ex_t e3 hT
      exact s_ret (ev_cal (ea_cons (ev_op (ev_var rfl) ev_c (rv_ixT hT rfl)) (ea_cons ev_c (ea_cons (ev_if (b := true) (et_is (et_test (ev_op (ev_op (ev_var rfl) ev_c (rv_ixT hT rfl)) ev_c (rv_eq rfl))) (by decide +kernel)) (fun _ => ev_c) (fun h => nomatch h)) ea_nil))) (spv_with (b := true) (by have := ok.2; simp; omega))) fun H4 e4 => k H4 (((e1.trans e2).trans e3).trans e4)
    | pro i j =>
      refine q_when (b := false) (et_is (et_or (et_not (et_B (ev_isi_tup (ev_var rfl) ha kb_tup))) fun _ => et_or (et_test (ev_niU (ev_lenT (ev_var rfl) hT) (eu_tup (ea_cons ev_c (ea_cons ev_c ea_nil)) (by decide)) rfl rfl)) fun _ => et_not (et_B (ev_isi_str (ev_op (ev_var rfl) ev_c (rv_ixT hT rfl)) kb_str))) rfl) (fun h => nomatch h) fun _ H1 e1 => ?_
      have hT := ex_t e1 hT
      refine q_when (b := false) (et_is (et_test (ev_op (ev_lenT (ev_var rfl) hT) ev_c (rv_eq rfl))) l32) (fun h => nomatch h) (fun _ H2 e2 => ?_)
      have hT := ex_t e2 hT
      refine q_when (b := false) (et_is (et_or (et_test (ev_niU (ev_op (ev_var rfl) ev_c (rv_ixT hT rfl)) (eu_tup (ea_cons ev_c (ea_cons ev_c (ea_cons ev_c ea_nil))) (by decide)) rfl rfl)) fun _ => et_not (et_B (ev_cal (ea_cons (ev_op (ev_var rfl) ev_c (rv_ixT hT rfl)) (ea_cons ev_c (ea_cons (ev_op (ev_var rfl) ev_c rv_I0) ea_nil))) (spv_with (b := true) (by have := ok.1; simp; omega))))) (by decide +kernel)) (fun h => nomatch h) (fun _ H3 e3 => ?_)
      have hT := ex_t e3 hT
      exact s_ret (ev_cal (ea_cons (ev_op (ev_var rfl) ev_c (rv_ixT hT rfl)) (ea_cons ev_c (ea_cons (ev_if (b := false) (et_is (et_test (ev_op (ev_op (ev_var rfl) ev_c (rv_ixT hT rfl)) ev_c (rv_eq rfl))) (by decide +kernel)) (fun h => nomatch h) fun _ => ev_op (ev_var rfl) ev_c rv_I0) ea_nil))) (spv_with (b := true) (by have := ok.2; simp; omega))) fun H4 e4 => k H4 (((e1.trans e2).trans e3).trans e4)
/-- houses -/
structure OkH (hs : List Nat) : Prop where
  ne : hs ≠ []
  le : hs.length ≤ 9
  ran : ∀ h ∈ hs, 1 ≤ h ∧ h ≤ 9
  asc : hs.Pairwise (· < ·)
theorem OkO.h {many : Nat} {o : Nat × List Nat} (h : OkO many o) : OkH o.2 := ⟨h.ne, h.le, h.ran, h.asc⟩
def spHouses : Sp := fun vs H Q _ => ∃ (a : Addr) (hs : List Nat), vs = [.ref a] ∧ H a = some (.tup (nis hs)) ∧ OkH hs ∧ RetV (.bl true) H Q
theorem spv_houses {a : Addr} {hs : List Nat} {H : Hp} (h : H a = some (.tup (nis hs))) (ok : OkH hs) : SpV spHouses [.ref a] H (.bl true) := fun H1 e Q q E => ⟨a, hs, rfl, e _ _ h, ok, q⟩
theorem cut1 (ns : List Nat) (h : ns ≠ []) : cutV (nis ns) (some 1) none = nis (ns.drop 1) ∧ HT.sIx (nis ns).length 0 (some 1) = 1 := by
  have hl : 1 ≤ ns.length := by
    cases ns with
    | nil => exact absurd rfl h
    | cons _ _ => simp
  have e1 : HT.sIx (nis ns).length 0 (some 1) = 1 := by
    show HT.sIx (nis ns).length 0 (some ((1 : Nat) : Int)) = 1
    rw [HT.sIx_nat, nis_len]
    omega
  refine ⟨?_, e1⟩
  unfold cutV
  have l : ((nis ns).drop 1).length ≤ (nis ns).length - 1 := by rw [List.length_drop]; exact Nat.le_refl _
  rw [e1, HT.sIx_none, List.take_of_length_le l]
  unfold nis
  rw [List.map_drop]
theorem cal_are_houses (G : Glo mg) (c_is_from : Cal P w K mg base 1 "is_from" ["value", "least", "most"] spWith) (F : FunX K mg "are_houses" "are_houses" "are_houses" s_are_houses ["value"]) : Cal P w K mg base 2 "are_houses" ["value"] spHouses := by
  refine Cal.mk' F sc_are_houses (fun vs H Q E h => ?_) (fun f cdv A outer s H vs Q E hr h => ?_)
  · obtain ⟨a, hs, rfl, _⟩ := h
    rfl
  · obtain ⟨a, hs, rfl, ha, ok, k⟩ := h
    refine ⟨_, (pss_cons (ps_if (PW.pt (pw_or (pt_not (pt_val (pe_callB call_isi (by rfl) G.isinstance (by decide +kernel) (pa_cons (pv 0) (pa_cons (pe_ty "tuple" rfl G.tuple (by decide +kernel)) pa_nil))))) (pw_or (pt_cmpR (op_eqD hr.units) (pv 0) (pe_tup pa_nil) (nomark _)) (pw_or1 (pt_not (pt_val (pe_callB (cr_all rfl) (by rfl) G.all (by decide +kernel) (pa_cons (pe_lc (own := [("one", 1)]) rfl sc_are_houses.nd (pi_tup (pv 0)) (blkOk_by (own := [("one", 1)]) (N := N_are_houses) (sc := defScope s_are_houses) (by decide +kernel)) (fun _ _ _ _ _ => (pg_name (i := 1) sc_are_houses.nd rfl (Or.inl rfl) (Or.inr rfl))) (fun _ _ _ _ _ => pts_nil) (fun _ _ _ _ _ => (pe_cal c_is_from (hr.mono (by decide)) (by rfl) (pa_cons (pv 1) (pa_cons pe_int (pa_cons (pe_gi G.cMOST_HOUSE rfl) pa_nil)))))) pa_nil)))))))) (pss_one (ps_ret pe_bl)) pss_nil)
      (pss_one (ps_ret (pe_callB (cr_all rfl) (by rfl) G.all (by decide +kernel) (pa_cons (pe_lc (own := [("one", 1), ("other", 2)]) rfl sc_are_houses.nd (RZ.pi_zipA (by rfl) G.zip (pa_cons (pv 0) (pa_cons (pe_slice sl_tup (pv 0) (po_some pe_int) po_none) pa_nil))) (blkOk_by (own := [("one", 1), ("other", 2)]) (N := N_are_houses) (sc := defScope s_are_houses) (by decide +kernel)) (fun _ _ _ _ _ => (pgTupK K 2 rfl rfl (pgs_cons (pg_name (i := 1) sc_are_houses.nd rfl (Or.inl rfl) (Or.inr rfl)) (pgs_cons (pg_name (i := 2) sc_are_houses.nd rfl (Or.inl rfl) (Or.inr rfl)) pgs_nil)) rfl)) (fun _ _ _ _ _ => pts_nil) (fun _ _ _ _ _ => (pe_cmpR op_lt (pv 1) (pv 2) (nomark _)))) pa_nil))))), ?_⟩
    have hT := SqT.of (K := K) ha
    have hl := ok.le
    refine q_when (b := false) (et_is (et_or (et_not (et_B (ev_isi_tup (ev_var rfl) ha kb_tup))) fun _ => et_or (et_test (ev_opU (z := .bl false) (ev_var rfl) (eu_tup ea_nil (by decide)) fun p H1 hp e => ?d)) fun _ =>
      et_not (et_B (ev_allR (b := fun _ => true) (el_lcT (fun _ => true) (fun _ => .bl true) (ev_var rfl) hT (by rw [nis_len]; omega) (fun _ => rfl) (fun _ _ _ _ _ => et_yes) fun i x H1 e1 hx _ => ?m) fun _ _ => rfl))) rfl) (fun h => nomatch h) fun _ H1 e1 => ?_
    case d =>
      have q := rv_eqD (dp_ex (dp_nis (K := K) ha) e) (.tup (SqT.of hp) .nil) ((sh_nis hs).ok (by decide)) rfl
      have z : PyData.eqv (nisD hs) (.tuple []) = false := eqv_len (by
        rw [List.length_map]
        intro z
        exact ok.ne (List.length_eq_zero_iff.mp z))
      rw [z] at q
      exact q
    case m =>
      obtain ⟨n, hn, rfl⟩ := nis_at hx
      have := ok.ran n (List.mem_of_getElem? hn)
      exact ev_cal (ea_cons (ev_var rfl) (ea_cons ev_c (ea_cons ev_c ea_nil))) (spv_with (b := true) (by simp; omega))
    have hT := ex_t e1 hT
    obtain ⟨c1, c2⟩ := cut1 hs ok.ne
    refine s_ret (ev_allR (b := fun _ => true) (el_lcZ (xs := nis hs) (ys := nis (hs.drop 1)) (n := hs.length - 1) (fun _ => true) (fun _ => .bl true) (fun H0 e Q q => ⟨_, rfl, _, rfl, 1, rfl, a, _, rfl, ex_t e hT, ?cz, fun p hp => ?cp⟩) hT (by rw [nis_len, nis_len, List.length_drop]; omega) (by omega) (fun _ _ => rfl) (fun _ _ _ _ _ _ _ => et_yes) fun i x y H1 e1 hx hy _ => ?m2) fun _ _ => rfl) fun H2 e2 => k H2 (e1.trans e2)
    case cz =>
      rw [c2]
      exact fun z => nomatch z.1
    case cp =>
      refine q p _ (Ex.new hp) ?_
      rw [c1]
      exact SqT.of upd_same
    case m2 =>
      obtain ⟨n, hn, rfl⟩ := nis_at hx
      obtain ⟨m, hm, rfl⟩ := nis_at hy
      rw [List.getElem?_drop] at hm
      obtain ⟨l1, g1⟩ := List.getElem?_eq_some_iff.mp hn
      obtain ⟨l2, g2⟩ := List.getElem?_eq_some_iff.mp hm
      have lt := List.pairwise_iff_getElem.mp ok.asc i (1 + i) l1 l2 (by omega)
      rw [g1, g2] at lt
      have r : RV (rI0 fun i j => V.bl (decide (i < j))) (ni n) (ni m) H1 (V.bl (decide ((n : Int) < (m : Int)))) := rv_I0
      rw [decide_eq_true (by omega)] at r
      exact ev_op (ev_var rfl) (ev_var rfl) r
def spOutput : Sp := fun vs H Q _ => ∃ (a : Addr) (many : Nat) (o : Nat × List Nat), vs = [.ref a, ni many] ∧ OutAt H a o ∧ OkO many o ∧ RetV (.bl true) H Q
theorem spv_output {a : Addr} {many : Nat} {o : Nat × List Nat} {H : Hp} (h : OutAt H a o) (ok : OkO many o) : SpV spOutput [.ref a, ni many] H (.bl true) := fun H1 e Q q E => ⟨a, many, o, rfl, h.ex e, ok, q⟩
theorem cal_is_output (G : Glo mg) (c_is_from : Cal P w K mg base 1 "is_from" ["value", "least", "most"] spWith) (c_are_houses : Cal P w K mg base 2 "are_houses" ["value"] spHouses) (F : FunX K mg "is_output" "is_output" "is_output" s_is_output ["value", "many"]) :
    Cal P w K mg base 3 "is_output" ["value", "many"] spOutput := by
  refine Cal.mk' F sc_is_output (fun vs H Q E h => ?_) (fun f cdv A outer s H vs Q E hr h => ?_)
  · obtain ⟨a, m, o, rfl, _⟩ := h
    rfl
  · obtain ⟨a, m, o, rfl, ⟨b, ha, hb⟩, ok, k⟩ := h
    refine ⟨_, (pss_one (ps_ret (pe_and (pe_callB call_isi (by rfl) G.isinstance (by decide +kernel) (pa_cons (pv 0) (pa_cons (pe_ty "tuple" rfl G.tuple (by decide +kernel)) pa_nil))) (pe_and (pe_cmpR op_eq (pe_callB call_len_seq (by rfl) G.len PySem.boot_len (pa_cons (pv 0) pa_nil)) pe_int (nomark _)) (pe_and (pe_cal c_is_from (hr.mono (by decide)) (by rfl) (pa_cons (pe_ix ix_tup (pv 0) pe_int (fun _ _ => rfl)) (pa_cons pe_int (pa_cons (pe_op op_sub (pv 1) pe_int) pa_nil)))) (pe_one (pe_cal c_are_houses (hr.mono (by decide)) (by rfl) (pa_cons (pe_ix ix_tup (pv 0) pe_int (fun _ _ => rfl)) pa_nil)))))))), ?_⟩
    have hT := SqT.of (K := K) ha
    have hg := ok.g
    exact s_ret (ev_is (ev_andV (ev_isi_tup (ev_var rfl) ha kb_tup) fun _ => ev_andV (ev_op (ev_lenT (ev_var rfl) hT) ev_c (rv_eq rfl)) fun _ => ev_andV (ev_cal (ea_cons (ev_op (ev_var rfl) ev_c (rv_ixT hT rfl)) (ea_cons ev_c (ea_cons (ev_op (ev_var rfl) ev_c rv_I0) ea_nil))) (spv_with (b := true) (by simp; omega))) fun _ => ev_cal (ea_cons (ev_op (ev_var rfl) ev_c (rv_ixT hT rfl)) ea_nil) (spv_houses hb ok.h)) (congrArg V.bl (by show (true && (decide (V.int ((2 : Nat) : Int) = V.int 2) && (true && true))) = true; rw [l22]; rfl))) k
/-- how many gates have a word -/
def spMany : Sp := fun vs H Q _ => ∃ (a : Addr) (gs : List G) (x : Str), vs = [.ref a, .str x] ∧ GatesAt H a gs ∧ gs.length ≤ 1000 ∧ RetV (ni (gs.countP fun g => decide (g.word = x))) H Q
theorem spv_many {a : Addr} {gs : List G} {x : Str} {H : Hp} (h : GatesAt H a gs) (hl : gs.length ≤ 1000) : SpV spMany [.ref a, .str x] H (ni (gs.countP fun g => decide (g.word = x))) := fun H1 e Q q E => ⟨a, gs, x, rfl, h.ex e, hl, q⟩
theorem ix0 (g : G) : atI g.vs 0 = some (.str g.word) := by cases g <;> rfl
theorem ix1 {g : G} : ∃ n : Nat, atI g.vs 1 = some (ni n) := by cases g <;> exact ⟨_, rfl⟩
theorem dec_strV (a b : Str) : decide (V.str a = V.str b) = decide (a = b) := by
  by_cases e : a = b
  · rw [decide_eq_true e, decide_eq_true (congrArg V.str e)]
  · rw [decide_eq_false e, decide_eq_false fun z => e (V.str.inj z)]
theorem given_cnt {α : Type} {gs : List α} (p : α → Bool) (f : Nat → Bool) (v : Nat → V) (h : ∀ (i : Nat) g, gs[i]? = some g → f i = p g) : (given gs.length f v).length = gs.countP p := by
  have key : ∀ n, n ≤ gs.length → (given n f v).length = (gs.take n).countP p := fun n => by
    induction n with
    | zero => intro _; rfl
    | succ n ih =>
      intro hn
      have hg : gs[n]? = some gs[n] := List.getElem?_eq_getElem hn
      have hf := h n _ hg
      rw [List.take_add_one, hg, List.countP_append, ← ih (by omega)]
      cases e : f n with
      | true =>
        rw [given_yes e, List.length_append]
        rw [e] at hf
        show _ + 1 = _ + List.countP p [gs[n]]
        rw [List.countP_singleton, if_pos hf.symm]
      | false =>
        rw [given_no e]
        rw [e] at hf
        show _ = _ + List.countP p [gs[n]]
        rw [List.countP_singleton, if_neg (by rw [← hf]; decide)]
        rfl
  have := key gs.length (Nat.le_refl _)
  rw [List.take_length] at this
  exact this
theorem cal_many_of (G0 : Glo mg) (F : FunX K mg "many_of" "many_of" "many_of" s_many_of ["gates", "word"]) : Cal P w K mg base 1 "many_of" ["gates", "word"] spMany := by
  have G := G0
  refine Cal.mk' F sc_many_of (fun vs H Q E h => ?_) (fun f cdv A outer s H vs Q E hr h => ?_)
  · obtain ⟨a, m, o, rfl, _⟩ := h
    rfl
  · obtain ⟨a, gs, x, rfl, hg, hl, k⟩ := h
    refine ⟨_, (pss_one (ps_ret (pe_callB call_len_seq (by rfl) G.len PySem.boot_len (pa_cons (pe_lc (own := [("gate", 2)]) rfl sc_many_of.nd (pi_tup (pv 0)) (blkOk_by (own := [("gate", 2)]) (N := N_many_of) (sc := defScope s_many_of) (by decide +kernel)) (fun _ _ _ _ _ => (pg_name (i := 2) sc_many_of.nd rfl (Or.inl rfl) (Or.inr rfl))) (fun _ _ _ _ _ => (pts_one (pt_cmpR op_eq (pe_ix (ixTK K rfl) (pv 2) pe_int (fun _ _ => rfl)) (pv 1) (nomark _)))) (fun _ _ _ _ _ => (pv 2))) pa_nil)))), ?_⟩
    obtain ⟨vs, h1, h2, h3⟩ := hg.at_
    refine s_ret (ev_lenN (el_lcT (fun i => decide ((gs.getD i (.con 0)).word = x)) (fun i => vs.getD i .non) (ev_var rfl) (SqT.of (K := K) h1) (by omega) (fun _ => rfl) (fun i v H1 e1 hv => ?t) fun i v H1 e1 hv _ => ?e)) fun H1 e1 => ?k
    case k =>
      rw [h2, given_cnt (gs := gs) (fun g => decide (g.word = x)) _ _ (fun i g hg' => by rw [List.getD_eq_getElem?_getD, hg']; rfl)]
      exact k H1 e1
    case e =>
      have : vs.getD i .non = v := by rw [List.getD_eq_getElem?_getD, hv]; rfl
      rw [this]
      exact ev_var rfl
    case t =>
      obtain ⟨p, g, rfl, hg', hp⟩ := h3 i v hv
      have : gs.getD i (.con 0) = g := by rw [List.getD_eq_getElem?_getD, hg']; rfl
      rw [this]
      exact et_is (et_test (ev_op (ev_op (ev_var rfl) ev_c (rv_ixT (K := K) (SqT.of (e1 _ _ hp)) (ix0 g))) (ev_var rfl) (rv_eq rfl))) (dec_strV _ _)
end
end Ec
set_option maxRecDepth 100000
set_option maxHeartbeats 4000000
/-! the program's defs: gates, outputs, levels -/
namespace Ec
open PySem PySem.Spec PyProof.Rows L2 Evl SlX
section
variable {P : Program} {w : World} {K : PySem.W.Frag} {mg : Str → Option Value} {base : Heap}
theorem w_inp (g : G) : decide (g.word = ("input" : Str)) = g.isInp := by
  cases g with
  | inp h => exact (by decide +kernel : decide (("input" : Str) = "input") = true)
  | con c => exact (by decide +kernel : decide (("constant" : Str) = "input") = false)
  | sum i j => exact (by decide +kernel : decide (("sum" : Str) = "input") = false)
  | mul i c => exact (by decide +kernel : decide (("times" : Str) = "input") = false)
  | pro i j => exact (by decide +kernel : decide (("product" : Str) = "input") = false)
theorem w_pro (g : G) : decide (g.word = ("product" : Str)) = g.isPro := by
  cases g with
  | inp h => exact (by decide +kernel : decide (("input" : Str) = "product") = false)
  | con c => exact (by decide +kernel : decide (("constant" : Str) = "product") = false)
  | sum i j => exact (by decide +kernel : decide (("sum" : Str) = "product") = false)
  | mul i c => exact (by decide +kernel : decide (("times" : Str) = "product") = false)
  | pro i j => exact (by decide +kernel : decide (("product" : Str) = "product") = true)
theorem cnt_inp (gs : List G) : gs.countP (fun g : G => decide (g.word = ("input" : Str))) = gs.countP G.isInp := congrArg (fun p => gs.countP p) (funext w_inp)
theorem cnt_pro (gs : List G) : gs.countP (fun g : G => decide (g.word = ("product" : Str))) = gs.countP G.isPro := congrArg (fun p => gs.countP p) (funext w_pro)
def spGates : Sp := fun vs H Q _ => ∃ (a : Addr) (gs : List G), vs = [.ref a] ∧ GatesAt H a gs ∧ OkGs gs ∧ RetV (.bl true) H Q
theorem spv_gates {a : Addr} {gs : List G} {H : Hp} (h : GatesAt H a gs) (ok : OkGs gs) : SpV spGates [.ref a] H (.bl true) := fun H1 e Q q E => ⟨a, gs, rfl, h.ex e, ok, q⟩
theorem cal_are_gates (G : Glo mg) (c_is_gate : Cal P w K mg base 2 "is_gate" ["value", "at"] spGate) (c_many_of : Cal P w K mg base 1 "many_of" ["gates", "word"] spMany) (F : FunX K mg "are_gates" "are_gates" "are_gates" s_are_gates ["value"]) : Cal P w K mg base 3 "are_gates" ["value"] spGates := by
  refine Cal.mk' F sc_are_gates (fun vs H Q E h => ?_) (fun f cdv A outer s H vs Q E hr h => ?_)
  · obtain ⟨a, gs, rfl, _⟩ := h
    rfl
  · obtain ⟨a, gs, rfl, hg, ok, k⟩ := h
    refine ⟨_, (pss_cons (ps_if (PW.pt (pw_or (pt_not (pt_val (pe_callB call_isi (by rfl) G.isinstance (by decide +kernel) (pa_cons (pv 0) (pa_cons (pe_ty "tuple" rfl G.tuple (by decide +kernel)) pa_nil))))) (pw_or1 (pt_not (pt_chain op_le op_le pe_int (pe_callB call_len_seq (by rfl) G.len PySem.boot_len (pa_cons (pv 0) pa_nil)) (pe_gi G.cMAX_GATES rfl)))))) (pss_one (ps_ret pe_bl)) pss_nil)
      (pss_cons (ps_if (pt_not (pt_val (pe_callB (cr_all rfl) (by rfl) G.all (by decide +kernel) (pa_cons (pe_lc (own := [("at", 1), ("gate", 2)]) rfl sc_are_gates.nd (pi_enumT (by rfl) G.enumerate (pa_cons (pv 0) pa_nil)) (blkOk_by (own := [("at", 1), ("gate", 2)]) (N := N_are_gates) (sc := defScope s_are_gates) (by decide +kernel)) (fun _ _ _ _ _ => (pgTupK K 2 rfl rfl (pgs_cons (pg_name (i := 1) sc_are_gates.nd rfl (Or.inl rfl) (Or.inr rfl)) (pgs_cons (pg_name (i := 2) sc_are_gates.nd rfl (Or.inl rfl) (Or.inr rfl)) pgs_nil)) rfl)) (fun _ _ _ _ _ => pts_nil) (fun _ _ _ _ _ => (pe_cal c_is_gate (hr.mono (by decide)) (by rfl) (pa_cons (pv 2) (pa_cons (pv 1) pa_nil))))) pa_nil)))) (pss_one (ps_ret pe_bl)) pss_nil)
      (pss_one (ps_ret (pe_and (pe_cmpR op_le (pe_cal c_many_of (hr.mono (by decide)) (by rfl) (pa_cons (pv 0) (pa_cons (pe_gs G.cINPUT rfl) pa_nil))) (pe_gi G.cMAX_INPUTS rfl) (nomark _)) (pe_one (pe_cmpR op_le (pe_cal c_many_of (hr.mono (by decide)) (by rfl) (pa_cons (pv 0) (pa_cons (pe_gs G.cPRODUCT rfl) pa_nil))) (pe_gi G.cMAX_PRODUCTS rfl) (nomark _)))))))), ?_⟩
    obtain ⟨vs, h1, h2, h3⟩ := hg.at_
    have hT := SqT.of (K := K) h1
    have l1 := ok.ne
    have l2 := ok.le
    refine q_when (b := false) (et_is (et_or (et_not (et_B (ev_isi_tup (ev_var rfl) h1 kb_tup))) fun _ => et_not (et_test (ev_chain ev_c (ev_lenT (ev_var rfl) hT) ev_c rv_I0 fun _ => rv_I0))) (by simp; omega)) (fun h => nomatch h) fun _ H1 e1 => ?_
    refine q_when (b := false) (et_not (et_B (ev_allR (K := K) (b := fun _ => true) (el_lcE (fun _ => true) (fun _ => .bl true) (ea_cons (ev_var rfl) ea_nil) (ex_t e1 hT) (by omega) (fun _ _ => rfl) (fun _ _ _ _ _ => et_yes) fun i v H2 e2 hv _ => ?m) fun _ _ => rfl))) (fun h => nomatch h) fun _ H2 e2 => ?_
    case m =>
      obtain ⟨p, g, rfl, hg', hp⟩ := h3 i v hv
      exact ev_cal (ea_cons (ev_var rfl) (ea_cons (ev_var rfl) ea_nil)) (spv_gate ((e1.trans e2) _ _ hp) (ok.ok i g hg'))
    have hg2 := hg.ex (e1.trans e2)
    have c1 := ok.inp
    have c2 := ok.pro
    rw [← cnt_inp] at c1
    rw [← cnt_pro] at c2
    refine s_ret (ev_is (ev_andV (ev_op (ev_cal (ea_cons (ev_var rfl) (ea_cons ev_c ea_nil)) (spv_many hg2 (by omega))) ev_c rv_I0) fun _ => ev_op (ev_cal (ea_cons (ev_var rfl) (ea_cons ev_c ea_nil)) (spv_many hg2 (by omega))) ev_c rv_I0) (congrArg V.bl ?v)) fun H3 e3 => k H3 ((e1.trans e2).trans e3)
    rw [decide_eq_true (by omega), decide_eq_true (by omega)]
    rfl
def spOutputs : Sp := fun vs H Q _ => ∃ (a : Addr) (many : Nat) (os : List (Nat × List Nat)), vs = [.ref a, ni many] ∧ OutsAt H a os ∧ OkOs many os ∧ RetV (.bl true) H Q
theorem spv_outputs {a : Addr} {many : Nat} {os : List (Nat × List Nat)} {H : Hp} (h : OutsAt H a os) (ok : OkOs many os) : SpV spOutputs [.ref a, ni many] H (.bl true) := fun H1 e Q q E => ⟨a, many, os, rfl, h.ex e, ok, q⟩
theorem cal_are_outputs (G : Glo mg) (c_is_output : Cal P w K mg base 3 "is_output" ["value", "many"] spOutput) (F : FunX K mg "are_outputs" "are_outputs" "are_outputs" s_are_outputs ["value", "many"]) : Cal P w K mg base 4 "are_outputs" ["value", "many"] spOutputs := by
  refine Cal.mk' F sc_are_outputs (fun vs H Q E h => ?_) (fun f cdv A outer s H vs Q E hr h => ?_)
  · obtain ⟨a, m, gs, rfl, _⟩ := h
    rfl
  · obtain ⟨a, m, os, rfl, hg, ok, k⟩ := h
    refine ⟨_, (pss_cons (ps_if (PW.pt (pw_or (pt_not (pt_val (pe_callB call_isi (by rfl) G.isinstance (by decide +kernel) (pa_cons (pv 0) (pa_cons (pe_ty "tuple" rfl G.tuple (by decide +kernel)) pa_nil))))) (pw_or1 (pt_not (pt_chain op_le op_le pe_int (pe_callB call_len_seq (by rfl) G.len PySem.boot_len (pa_cons (pv 0) pa_nil)) (pe_gi G.cMAX_OUTPUTS rfl)))))) (pss_one (ps_ret pe_bl)) pss_nil)
      (pss_one (ps_ret (pe_callB (cr_all rfl) (by rfl) G.all (by decide +kernel) (pa_cons (pe_lc (own := [("one", 2)]) rfl sc_are_outputs.nd (pi_tup (pv 0)) (blkOk_by (own := [("one", 2)]) (N := N_are_outputs) (sc := defScope s_are_outputs) (by decide +kernel)) (fun _ _ _ _ _ => (pg_name (i := 2) sc_are_outputs.nd rfl (Or.inl rfl) (Or.inr rfl))) (fun _ _ _ _ _ => pts_nil) (fun _ _ _ _ _ => (pe_cal c_is_output (hr.mono (by decide)) (by rfl) (pa_cons (pv 2) (pa_cons (pv 1) pa_nil))))) pa_nil))))), ?_⟩
    obtain ⟨vs, h1, h2, h3⟩ := hg.at_
    have hT := SqT.of (K := K) h1
    have l1 := ok.ne
    have l2 := ok.le
    refine q_when (b := false) (et_is (et_or (et_not (et_B (ev_isi_tup (ev_var rfl) h1 kb_tup))) fun _ => et_not (et_test (ev_chain ev_c (ev_lenT (ev_var rfl) hT) ev_c rv_I0 fun _ => rv_I0))) (by simp; omega)) (fun h => nomatch h) fun _ H1 e1 => ?_
    refine s_ret (ev_allR (b := fun _ => true) (el_lcT (fun _ => true) (fun _ => .bl true) (ev_var rfl) (ex_t e1 hT) (by omega) (fun _ => rfl) (fun _ _ _ _ _ => et_yes) fun i v H2 e2 hv _ => ?m) fun _ _ => rfl) fun H2 e2 => k H2 (e1.trans e2)
    obtain ⟨p, o, rfl, ho, hp⟩ := h3 i v hv
    exact ev_cal (ea_cons (ev_var rfl) (ea_cons (ev_var rfl) ea_nil)) (spv_output (hp.ex (e1.trans e2)) (ok.ok o (List.mem_of_getElem? ho)))
end
end Ec
set_option maxRecDepth 100000
set_option maxHeartbeats 4000000
/-! the program's defs: levels, products -/
namespace Ec
open PySem PySem.Spec PyProof.Rows L2 Evl SlX
/-! ### the words -/
theorem w_input_input : decide (("input" : Str) = "input") = true := by decide +kernel
theorem w_input_constant : decide (("input" : Str) = "constant") = false := by decide +kernel
theorem w_input_sum : decide (("input" : Str) = "sum") = false := by decide +kernel
theorem w_input_times : decide (("input" : Str) = "times") = false := by decide +kernel
theorem w_input_product : decide (("input" : Str) = "product") = false := by decide +kernel
theorem w_constant_input : decide (("constant" : Str) = "input") = false := by decide +kernel
theorem w_constant_constant : decide (("constant" : Str) = "constant") = true := by decide +kernel
theorem w_constant_sum : decide (("constant" : Str) = "sum") = false := by decide +kernel
theorem w_constant_times : decide (("constant" : Str) = "times") = false := by decide +kernel
theorem w_constant_product : decide (("constant" : Str) = "product") = false := by decide +kernel
theorem w_sum_input : decide (("sum" : Str) = "input") = false := by decide +kernel
theorem w_sum_constant : decide (("sum" : Str) = "constant") = false := by decide +kernel
theorem w_sum_sum : decide (("sum" : Str) = "sum") = true := by decide +kernel
theorem w_sum_times : decide (("sum" : Str) = "times") = false := by decide +kernel
theorem w_sum_product : decide (("sum" : Str) = "product") = false := by decide +kernel
theorem w_times_input : decide (("times" : Str) = "input") = false := by decide +kernel
theorem w_times_constant : decide (("times" : Str) = "constant") = false := by decide +kernel
theorem w_times_sum : decide (("times" : Str) = "sum") = false := by decide +kernel
theorem w_times_times : decide (("times" : Str) = "times") = true := by decide +kernel
theorem w_times_product : decide (("times" : Str) = "product") = false := by decide +kernel
theorem w_product_input : decide (("product" : Str) = "input") = false := by decide +kernel
theorem w_product_constant : decide (("product" : Str) = "constant") = false := by decide +kernel
theorem w_product_sum : decide (("product" : Str) = "sum") = false := by decide +kernel
theorem w_product_times : decide (("product" : Str) = "times") = false := by decide +kernel
theorem w_product_product : decide (("product" : Str) = "product") = true := by decide +kernel
/-! ### what they are -/
def lvl1 (acc : List Nat) : G → Nat
  | .inp _ => 0
  | .con _ => 0
  | .sum i j => max (acc.getD i 0) (acc.getD j 0)
  | .mul i _ => acc.getD i 0
  | .pro i j => max (acc.getD i 0) (acc.getD j 0) + 1
def lvs (gs : List G) : List Nat := gs.foldl (fun acc g => acc ++ [lvl1 acc g]) []
theorem lvs_snoc (gs : List G) (g : G) : lvs (gs ++ [g]) = lvs gs ++ [lvl1 (lvs gs) g] := by
  unfold lvs
  rw [List.foldl_append]
  rfl
theorem lvs_take {gs : List G} {i : Nat} {g : G} (h : gs[i]? = some g) : lvs (gs.take (i + 1)) = lvs (gs.take i) ++ [lvl1 (lvs (gs.take i)) g] := by rw [take_snoc h, lvs_snoc]
theorem lvs_len_take (gs : List G) : ∀ i, i ≤ gs.length → (lvs (gs.take i)).length = i := by
  intro i
  induction i with
  | zero => exact fun _ => rfl
  | succ i ih =>
    intro h
    rw [lvs_take (List.getElem?_eq_getElem (by omega)), List.length_append, ih (by omega)]
    rfl
theorem lvs_len (gs : List G) : (lvs gs).length = gs.length := by
  have h := lvs_len_take gs gs.length (Nat.le_refl _)
  rw [List.take_length] at h
  exact h
theorem getD_le {ns : List Nat} {m : Nat} (h : ∀ n ∈ ns, n ≤ m) (i : Nat) : ns.getD i 0 ≤ m := by
  by_cases hi : i < ns.length
  · have e := at_getD 0 hi
    exact h _ (List.mem_of_getElem? e)
  · rw [List.getD_eq_getElem?_getD, List.getElem?_eq_none (by omega)]
    exact Nat.zero_le _
theorem lvs_le_take (gs : List G) : ∀ i, i ≤ gs.length → ∀ n ∈ lvs (gs.take i), n ≤ i := by
  intro i
  induction i with
  | zero => exact fun _ n h => nomatch h
  | succ i ih =>
    intro h n hn
    have ih := ih (by omega)
    rw [lvs_take (List.getElem?_eq_getElem (by omega))] at hn
    rcases List.mem_append.mp hn with hn | hn
    · exact Nat.le_succ_of_le (ih n hn)
    · rw [List.mem_singleton.mp hn]
      have q := getD_le ih
      cases gs[i]'(by omega) with
      | inp h => exact Nat.zero_le _
      | con c => exact Nat.zero_le _
      | sum i1 j1 =>
        have := q i1
        have := q j1
        show max _ _ ≤ _
        omega
      | mul i1 c =>
        have := q i1
        show List.getD _ _ _ ≤ _
        omega
      | pro i1 j1 =>
        have := q i1
        have := q j1
        show max _ _ + 1 ≤ _
        omega
theorem lvs_le {gs : List G} {n : Nat} (h : n ∈ lvs gs) : n ≤ gs.length := lvs_le_take gs gs.length (Nat.le_refl _) n (by rw [List.take_length]; exact h)
def proAt (gs : List G) (i : Nat) : Bool := (gs.getD i (.con 0)).isPro
/-- the products on level k -/
def prods (gs : List G) (k : Nat) : List Nat := ((List.range gs.length).filter (proAt gs)).filter fun i => decide ((lvs gs).getD i 0 = k)
def prodss (gs : List G) : List (List Nat) := (List.range (maxOf (lvs gs))).map fun l => prods gs (l + 1)
section
variable {P : Program} {w : World} {K : PySem.W.Frag} {mg : Str → Option Value} {base : Heap}
abbrev s_level_list : Stmt := top 34
abbrev N_level_list : List Str := ["gates", "found", "gate"]
theorem sc_level_list : FnScope N_level_list ["gates"] (defScope s_level_list) := ⟨rfl, rfl, rfl, by decide +kernel, rfl, by decide +kernel, by decide +kernel⟩
abbrev s_products_of : Stmt := top 35
abbrev N_products_of : List Str := ["gates", "levels", "there", "at", "level", "here"]
theorem sc_products_of : FnScope N_products_of ["gates"] (defScope s_products_of) := ⟨rfl, rfl, rfl, by decide +kernel, rfl, by decide +kernel, by decide +kernel⟩
def spLevels : Sp := fun vs H Q _ => ∃ (a : Addr) (gs : List G), vs = [.ref a] ∧ GatesAt H a gs ∧ OkGs gs ∧ RetL (nis (lvs gs)) H Q
theorem spl_levels {a : Addr} {gs : List G} {H : Hp} (h : GatesAt H a gs) (ok : OkGs gs) : SpL spLevels [.ref a] H (nis (lvs gs)) := fun H1 e Q q E => ⟨a, gs, rfl, h.ex e, ok, q⟩
theorem nis_snoc (ns : List Nat) (n : Nat) : nis ns ++ [ni n] = nis (ns ++ [n]) := by unfold nis; rw [List.map_append]; rfl
theorem cal_level_list (G : Glo mg) (F : FunX K mg "level_list" "level_list" "level_list" s_level_list ["gates"]) : Cal P w K mg base 1 "level_list" ["gates"] spLevels := by
  refine Cal.mk' F sc_level_list (fun vs H Q E h => ?_) (fun f cdv A outer s H vs Q E hr h => ?_)
  · obtain ⟨a, gs, rfl, _⟩ := h
    rfl
  · obtain ⟨a, gs, rfl, hg, ok, k⟩ := h
    refine ⟨_, (pss_cons (ps_set (i := 1) sc_level_list.nd rfl (Or.inl rfl) (pe_lst pa_nil))
      (pss_cons (ps_for PassesOwn.never rfl (pi_tup (pv 0)) (pg_name (i := 2) sc_level_list.nd rfl (Or.inl rfl) (Or.inr rfl)) (pss_one (ps_match (pe_ix ix_tup (pv 2) pe_int (fun _ _ => rfl))
        (pm_str (pss_one (ps_expr (pe_bm PySem.F.plainAttrs_list PySem.F.slot_list_append PySem.F.type_list_append mt_append (pv 1) (pa_cons (pe_callB (call_max2 rfl) (by rfl) G.max (by decide +kernel) (pa_cons (pe_ix ix_list (pv 1) (pe_ix ix_tup (pv 2) pe_int (fun _ _ => rfl)) (fun _ _ => rfl)) (pa_cons (pe_ix ix_list (pv 1) (pe_ix ix_tup (pv 2) pe_int (fun _ _ => rfl)) (fun _ _ => rfl)) pa_nil))) pa_nil))))
        (pm_str (pss_one (ps_expr (pe_bm PySem.F.plainAttrs_list PySem.F.slot_list_append PySem.F.type_list_append mt_append (pv 1) (pa_cons (pe_op op_add (pe_callB (call_max2 rfl) (by rfl) G.max (by decide +kernel) (pa_cons (pe_ix ix_list (pv 1) (pe_ix ix_tup (pv 2) pe_int (fun _ _ => rfl)) (fun _ _ => rfl)) (pa_cons (pe_ix ix_list (pv 1) (pe_ix ix_tup (pv 2) pe_int (fun _ _ => rfl)) (fun _ _ => rfl)) pa_nil))) pe_int) pa_nil))))
        (pm_str (pss_one (ps_expr (pe_bm PySem.F.plainAttrs_list PySem.F.slot_list_append PySem.F.type_list_append mt_append (pv 1) (pa_cons (pe_ix ix_list (pv 1) (pe_ix ix_tup (pv 2) pe_int (fun _ _ => rfl)) (fun _ _ => rfl)) pa_nil))))
        (pm_any (pss_one (ps_expr (pe_bm PySem.F.plainAttrs_list PySem.F.slot_list_append PySem.F.type_list_append mt_append (pv 1) (pa_cons pe_int pa_nil)))))))))))
      (pss_one (ps_ret (pv 1))))), ?_⟩
    obtain ⟨vs, h1, h2, h3⟩ := hg.at_
    have hT := SqT.of (K := K) h1
    refine q_asgL (el_lst ea_nil (by decide)) fun l H1 hl e1 hl1 => ?_
    refine q_forT (ev_var rfl) (ex_t e1 hT) (fun i σ' H' => ∃ o, σ' = [some (.ref a), some (.ref l), o] ∧ Ex H H' ∧ H' l = some (.lst (nis (lvs (gs.take i))))) (fun H2 e2 => ⟨none, rfl, e1.trans e2, e2 _ _ hl1⟩) (fun i σ' H' _ p => by
      obtain ⟨o, rfl, e, _⟩ := p
      exact ex_t e hT) (fun i x σ' H' hx p => ?m1) (fun σ' H' p => ?m2)
    case m2 =>
      obtain ⟨o, rfl, e, p⟩ := p
      rw [h2, List.take_length] at p
      exact s_ret (ev_var rfl) fun H2 e2 => k l H2 hl (e.trans e2) (e2 _ _ p)
    case m1 =>
      obtain ⟨o, rfl, e, p⟩ := p
      obtain ⟨q, g, rfl, hgi, hq⟩ := h3 i x hx
      have hq := e _ _ hq
      have hgT := SqT.of (K := K) hq
      have okg := ok.ok i g hgi
      have hi : i < gs.length := (List.getElem?_eq_some_iff.mp hgi).1
      have hlen := lvs_len_take gs i (by omega)
      have hz : (nis (lvs (gs.take i))).length < 100000 := by rw [nis_len, hlen]; have := ok.le; omega
      have fin : ∀ (y : V) H2, y = ni (lvl1 (lvs (gs.take i)) g) → Ex H' H2 → ∃ o, [some (V.ref a), some (V.ref l), some (V.ref q)] = [some (.ref a), some (.ref l), o] ∧ Ex H (upd H2 l (.lst (nis (lvs (gs.take i)) ++ [y]))) ∧ upd H2 l (.lst (nis (lvs (gs.take i)) ++ [y])) l = some (.lst (nis (lvs (gs.take (i + 1))))) := fun y H2 hy e2 => by
        refine ⟨_, rfl, Ex.mut (e.trans e2) hl, ?_⟩
        rw [upd_same, hy, nis_snoc, lvs_take hgi]
      have hw : atI g.vs 0 = some (.str g.word) := by cases g <;> rfl
      refine s_match (ev_op (ev_var rfl) ev_c (rv_ixT hgT hw)) fun H2 e2 => ?_
      have hgT := ex_t e2 hgT
      have p := e2 _ _ p
      have pl := sq_of (K := K) p
      cases g with
      | inp h =>
        refine m_no w_input_sum (m_no w_input_product (m_no w_input_times ?_))
        exact s_app p (ev_var rfl) ev_c hz fun H3 e3 => fin _ H3 rfl (e2.trans e3)
      | con h =>
        refine m_no w_constant_sum (m_no w_constant_product (m_no w_constant_times ?_))
        exact s_app p (ev_var rfl) ev_c hz fun H3 e3 => fin _ H3 rfl (e2.trans e3)
      | sum i1 j1 =>
        refine m_yes ?_
        exact s_app p (ev_var rfl) (ev_maxN (ev_op (ev_var rfl) (ev_op (ev_var rfl) ev_c (rv_ixT hgT rfl)) (rv_ixL pl (at_nis (by rw [hlen]; exact okg.1)))) (ev_op (ev_var rfl) (ev_op (ev_var rfl) ev_c (rv_ixT hgT rfl)) (rv_ixL pl (at_nis (by rw [hlen]; exact okg.2))))) hz fun H3 e3 => fin _ H3 rfl (e2.trans e3)
      | mul i1 c =>
        refine m_no w_times_sum (m_no w_times_product (m_yes ?_))
        exact s_app p (ev_var rfl) (ev_op (ev_var rfl) (ev_op (ev_var rfl) ev_c (rv_ixT hgT rfl)) (rv_ixL pl (at_nis (by rw [hlen]; exact okg.1)))) hz fun H3 e3 => fin _ H3 rfl (e2.trans e3)
      | pro i1 j1 =>
        refine m_no w_product_sum (m_yes ?_)
        exact s_app p (ev_var rfl) (ev_op (ev_maxN (ev_op (ev_var rfl) (ev_op (ev_var rfl) ev_c (rv_ixT hgT rfl)) (rv_ixL pl (at_nis (by rw [hlen]; exact okg.1)))) (ev_op (ev_var rfl) (ev_op (ev_var rfl) ev_c (rv_ixT hgT rfl)) (rv_ixL pl (at_nis (by rw [hlen]; exact okg.2))))) ev_c rv_I0) hz fun H3 e3 => fin _ H3 rfl (e2.trans e3)
def spProds : Sp := fun vs H Q _ => ∃ (a : Addr) (gs : List G), vs = [.ref a] ∧ GatesAt H a gs ∧ OkGs gs ∧ ∀ p H2, Ex H H2 → NssAt H2 p (prodss gs) → Q (.ref p) H2
theorem cal_products_of (G : Glo mg) (c_level_list : Cal P w K mg base 1 "level_list" ["gates"] spLevels) (F : FunX K mg "products_of" "products_of" "products_of" s_products_of ["gates"]) : Cal P w K mg base 2 "products_of" ["gates"] spProds := by
  refine Cal.mk' F sc_products_of (fun vs H Q E h => ?_) (fun f cdv A outer s H vs Q E hr h => ?_)
  · obtain ⟨a, gs, rfl, _⟩ := h
    rfl
  · obtain ⟨a, gs, rfl, hg, ok, k⟩ := h
    refine ⟨_, (pss_cons (ps_set (i := 1) sc_products_of.nd rfl (Or.inl rfl) (pe_cal c_level_list (hr.mono (by decide)) (by rfl) (pa_cons (pv 0) pa_nil)))
      (pss_cons (ps_set (i := 2) sc_products_of.nd rfl (Or.inr rfl) (pe_lc (own := [("at", 3), ("level", 4)]) rfl sc_products_of.nd (pi_enum (by rfl) G.enumerate (pa_cons (pv 1) pa_nil)) (blkOk_by (own := [("at", 3), ("level", 4)]) (N := N_products_of) (sc := defScope s_products_of) (by decide +kernel)) (fun _ _ _ _ _ => (pgTupK K 2 rfl rfl (pgs_cons (pg_name (i := 3) sc_products_of.nd rfl (Or.inl rfl) (Or.inr rfl)) (pgs_cons (pg_name (i := 4) sc_products_of.nd rfl (Or.inl rfl) (Or.inr rfl)) pgs_nil)) rfl)) (fun _ _ _ _ _ => (pts_one (pt_cmpR op_eq (pe_ix (ixTK K rfl) (pe_ix (ixTK K rfl) (pv 0) (pv 3) (fun _ _ => rfl)) pe_int (fun _ _ => rfl)) (pe_gs G.cPRODUCT rfl) (nomark _)))) (fun _ _ _ _ _ => (pe_tup (pa_cons (pv 4) (pa_cons (pv 3) pa_nil))))))
      (pss_one (ps_ret (pe_callTy call_tuple_of (by rfl) G.tuple (by decide +kernel) (pa_cons (pe_lc (own := [("level", 4)]) rfl sc_products_of.nd (pi_range2 (by rfl) G.range (pa_cons pe_int (pa_cons (pe_op op_add (pe_callB (cr_max rfl) (by rfl) G.max (by decide +kernel) (pa_cons (pv 1) pa_nil)) pe_int) pa_nil))) (blkOk_by (own := [("level", 4)]) (N := N_products_of) (sc := defScope s_products_of) (by decide +kernel)) (fun _ _ _ _ _ => (pg_name (i := 4) sc_products_of.nd rfl (Or.inr rfl) (Or.inl rfl))) (fun _ _ _ _ _ => pts_nil) (fun _ _ _ _ _ => (pe_callTy (callTupK K rfl) (by rfl) G.tuple (by decide +kernel) (pa_cons (pe_lc (own := [("here", 5), ("at", 3)]) rfl sc_products_of.nd (piListK K rfl (pv 2)) (blkOk_by (own := [("here", 5), ("at", 3)]) (N := N_products_of) (sc := relS _ (defScope s_products_of)) (by decide +kernel)) (fun _ _ _ _ _ => (pgTupK K 2 rfl rfl (pgs_cons (pg_name (i := 5) sc_products_of.nd rfl (Or.inl rfl) (Or.inr rfl)) (pgs_cons (pg_name (i := 3) sc_products_of.nd rfl (Or.inl rfl) (Or.inr rfl)) pgs_nil)) rfl)) (fun _ _ _ _ _ => (pts_one (pt_cmpR op_eq (pv 5) (pv 4) (nomark _)))) (fun _ _ _ _ _ => (pv 3))) pa_nil)))) pa_nil)))))), ?_⟩
    obtain ⟨vs, h1, h2, h3⟩ := hg.at_
    have hT := SqT.of (K := K) h1
    have l60 := ok.le
    have hlen := lvs_len gs
    refine q_asgL (el_cal (ea_cons (ev_var rfl) ea_nil) (spl_levels hg ok)) fun l H1 hl e1 hl1 => ?_
    have hL := sq_of (K := K) hl1
    refine q_asgLP (el_lcELP (proAt gs) (fun i => TupV [ni ((lvs gs).getD i 0), ni i]) (tupV_steady _) (ea_cons (ev_var rfl) ea_nil) hL (by rw [nis_len, hlen]; omega) (fun _ _ => rfl) (fun i x H2 e2 hx => ?m1) (fun i x H2 e2 hx hf => ?m2)) fun t ts H2 ht e2 ht1 ht2 => ?_
    case m1 =>
      have hi : i < gs.length := by
        have := (List.getElem?_eq_some_iff.mp hx).1
        rw [nis_len, hlen] at this
        exact this
      obtain ⟨p, g, hv, hgi, hp⟩ := h3 i _ (List.getElem?_eq_getElem (by omega))
      have hg2 := SqT.of (K := K) ((e1.trans e2) _ _ hp)
      have hT2 := ex_t (e1.trans e2) hT
      have hw : atI g.vs 0 = some (.str g.word) := by cases g <;> rfl
      refine et_is (et_test (ev_op (ev_op (ev_op (ev_var rfl) (ev_var rfl) (rv_ixT hT2 (atI_nat (by rw [List.getElem?_eq_getElem (by omega), hv])))) ev_c (rv_ixT hg2 hw)) ev_c (rv_eq rfl))) ?_
      unfold proAt
      rw [getD_of hgi, ← w_pro]
      exact decide_eq_decide.mpr ⟨fun h => V.str.inj h, fun h => congrArg V.str h⟩
    case m2 =>
      obtain ⟨n, hn, rfl⟩ := nis_at hx
      rw [getD_of hn]
      exact evp_U (eu_tup (ea_cons (ev_var rfl) (ea_cons (ev_var rfl) ea_nil)) (Nat.le_of_ble_eq_true rfl))
    have e12 := e1.trans e2
    have hL2 := ex_l e2 hL
    have htL := sq_of (K := K) ht1
    have hml : ∀ n, n ∈ lvs gs → n ≤ 60 := fun n h => Nat.le_trans (lvs_le h) l60
    have hmm := maxOf_le hml
    have hks : ((List.range (nis (lvs gs)).length).filter (proAt gs)) = ((List.range gs.length).filter (proAt gs)) := by rw [nis_len, hlen]
    rw [hks] at ht2
    have hkl : ts.length = ((List.range gs.length).filter (proAt gs)).length := ht2.1
    refine s_retUP (eu_tupP (Told.mono (tupV_steady fun i => nis (prods gs (i + 1)))) (el_lcR2P (lo := 1) (hi := ((maxOf (lvs gs) : Nat) : Int) + 1) (n := maxOf (lvs gs)) (fun _ => true) _ (tupV_steady fun i => nis (prods gs (i + 1)))
      (ea_cons ev_c (ea_cons (ev_op (ev_maxL (ev_var rfl) hL2 (fun h => by rw [h] at hlen; have := ok.ne; simp at hlen; omega)) ev_c rv_I0) ea_nil)) (by omega) (by omega) (fun _ => rfl) (fun _ _ _ _ => et_yes) (fun i H3 e3 hi _ => ?m3))) fun p vs H3 hp e3 hp3 ht3 => ?m4
    case m4 =>
      obtain ⟨ps, rfl, q1, q2⟩ := told_refs (Pa := fun k p H => H p = some (.tup (nis (prods gs (k + 1))))) ht3 fun k v h => h
      refine k p H3 (e12.trans e3) ⟨ps, hp3, ?_, fun i p xs hp hx => ?_⟩
      · rw [q1, List.filter_eq_self.mpr (fun _ _ => rfl), prodss, List.length_map]
      · rw [List.filter_eq_self.mpr (fun _ _ => rfl)] at q2
        have hi : i < maxOf (lvs gs) := by
          have := (List.getElem?_eq_some_iff.mp hx).1
          rw [prodss, List.length_map, List.length_range] at this
          exact this
        rw [prodss, List.getElem?_map, List.getElem?_range hi] at hx
        cases hx
        exact q2 i p i hp (List.getElem?_range hi)
    case m3 =>
      refine evp_U (eu_tupN (el_is (el_lcL2 (xs := ts) (fun j => decide ((lvs gs).getD (((List.range gs.length).filter (proAt gs)).getD j 0) 0 = i + 1)) (fun j => ni (((List.range gs.length).filter (proAt gs)).getD j 0)) (fun j => ni ((lvs gs).getD (((List.range gs.length).filter (proAt gs)).getD j 0) 0)) (fun j => ni (((List.range gs.length).filter (proAt gs)).getD j 0))
        (ev_var rfl) (ex_l e3 htL) (fun j x hx => ?m5) (by
          have := List.length_filter_le (proAt gs) (List.range gs.length)
          rw [List.length_range] at this
          omega) (fun _ _ => rfl) (fun j H4 e4 hj => et_is (et_test (ev_op (ev_var rfl) (ev_var rfl) (rv_eq rfl))) ?m6) (fun j H4 e4 hj _ => ev_var rfl)) ?m7))
      case m5 =>
        have hj : j < ((List.range gs.length).filter (proAt gs)).length := by rw [← hkl]; exact (List.getElem?_eq_some_iff.mp hx).1
        obtain ⟨p, rfl, hp⟩ := ht2.2 j _ x (at_getD 0 hj) hx
        exact ⟨p, rfl, SqT.of (e3 _ _ hp)⟩
      case m6 =>
        refine decide_eq_decide.mpr ⟨fun h => ?_, fun h => ?_⟩
        · have h := V.int.inj h
          omega
        · refine congrArg V.int ?_
          omega
      case m7 =>
        rw [hkl]
        exact given_of ((List.range gs.length).filter (proAt gs)) 0 (fun n => decide ((lvs gs).getD n 0 = i + 1)) ni
end
end Ec
set_option maxRecDepth 100000
set_option maxHeartbeats 4000000
/-! the program's defs: meaning, numbers -/
namespace Ec
open PySem PySem.Spec PyProof.Rows L2 Evl SlX
/-! ### what they are -/
def mval (f : Nat) (ns acc : List Nat) (c : Nat) : G → Nat
  | .inp _ => ns.getD c 0
  | .con d => d % f
  | .sum i j => (acc.getD i 0 + acc.getD j 0) % f
  | .mul i d => acc.getD i 0 * d % f
  | .pro i j => acc.getD i 0 * acc.getD j 0 % f
def inN (gs : List G) : Nat := gs.countP G.isInp
def mrun (f : Nat) (ns : List Nat) (gs : List G) : List Nat × Nat := gs.foldl (fun s g => (s.1 ++ [mval f ns s.1 s.2 g], s.2 + if g.isInp then 1 else 0)) ([], 0)
def means (f : Nat) (ns : List Nat) (gs : List G) : List Nat := (mrun f ns gs).1
theorem mrun_snoc (f : Nat) (ns : List Nat) (gs : List G) (g : G) : mrun f ns (gs ++ [g]) = ((mrun f ns gs).1 ++ [mval f ns (mrun f ns gs).1 (mrun f ns gs).2 g], (mrun f ns gs).2 + if g.isInp then 1 else 0) := by
  unfold mrun
  rw [List.foldl_append]
  rfl
theorem inN_snoc (gs : List G) (g : G) : inN (gs ++ [g]) = inN gs + if g.isInp then 1 else 0 := by
  unfold inN
  rw [List.countP_append, List.countP_cons, List.countP_nil, Nat.zero_add]
theorem mrun_in (f : Nat) (ns : List Nat) (gs : List G) : ∀ i, i ≤ gs.length → (mrun f ns (gs.take i)).2 = inN (gs.take i) := by
  intro i
  induction i with
  | zero => exact fun _ => rfl
  | succ i ih =>
    intro h
    rw [take_snoc (List.getElem?_eq_getElem (by omega)), mrun_snoc, inN_snoc, ih (by omega)]
theorem means_take {f : Nat} {ns : List Nat} {gs : List G} {i : Nat} {g : G} (h : gs[i]? = some g) : means f ns (gs.take (i + 1)) = means f ns (gs.take i) ++ [mval f ns (means f ns (gs.take i)) (inN (gs.take i)) g] := by
  have hi := (List.getElem?_eq_some_iff.mp h).1
  unfold means
  rw [take_snoc h, mrun_snoc, mrun_in f ns gs i (by omega)]
theorem means_len_take (f : Nat) (ns : List Nat) (gs : List G) : ∀ i, i ≤ gs.length → (means f ns (gs.take i)).length = i := by
  intro i
  induction i with
  | zero => exact fun _ => rfl
  | succ i ih =>
    intro h
    rw [means_take (List.getElem?_eq_getElem (by omega)), List.length_append, ih (by omega)]
    rfl
theorem means_len (f : Nat) (ns : List Nat) (gs : List G) : (means f ns gs).length = gs.length := by
  have h := means_len_take f ns gs gs.length (Nat.le_refl _)
  rw [List.take_length] at h
  exact h
theorem getD_lt {ns : List Nat} {m : Nat} (hm : 0 < m) (h : ∀ n ∈ ns, n < m) (i : Nat) : ns.getD i 0 < m := by
  by_cases hi : i < ns.length
  · exact h _ (List.mem_of_getElem? (at_getD 0 hi))
  · rw [List.getD_eq_getElem?_getD, List.getElem?_eq_none (by omega)]
    exact hm
theorem means_lt {f : Nat} {ns : List Nat} (gs : List G) (hf : 0 < f) (hn : ∀ n ∈ ns, n < f) : ∀ i, i ≤ gs.length → ∀ n ∈ means f ns (gs.take i), n < f := by
  intro i
  induction i with
  | zero => exact fun _ n h => nomatch h
  | succ i ih =>
    intro h n hm
    rw [means_take (List.getElem?_eq_getElem (by omega))] at hm
    rcases List.mem_append.mp hm with hm | hm
    · exact ih (by omega) n hm
    · rw [List.mem_singleton.mp hm]
      cases gs[i]'(by omega) with
      | inp h => exact getD_lt hf hn _
      | con c => exact Nat.mod_lt _ hf
      | sum i1 j1 => exact Nat.mod_lt _ hf
      | mul i1 c => exact Nat.mod_lt _ hf
      | pro i1 j1 => exact Nat.mod_lt _ hf
theorem inN_lt {gs : List G} {i : Nat} {g : G} (h : gs[i]? = some g) (hg : g.isInp = true) : inN (gs.take i) < inN gs := by
  have e := inN_snoc (gs.take i) g
  rw [← take_snoc h, hg, if_pos rfl] at e
  have l : inN (gs.take (i + 1)) ≤ inN gs := (List.take_sublist _ _).countP_le
  omega
theorem q_parLL {K : PySem.W.Frag} {D : Ends} {tz : TS} {σ : L2.St} {H : Hp} {ta tb : TE} {xs ys : List V} {i j : Nat} (ha : EvL ta σ H xs) (hb : EvL tb σ H ys)
    (k : ∀ p q H1, H p = none → H q = none → p ≠ q → Ex H H1 → H1 p = some (.lst xs) → H1 q = some (.lst ys) → tz D ((σ.set i (some (.ref p))).set j (some (.ref q))) H1) : tSeq (tPar i j (tCons ta (tCons tb tNil))) tz D σ H :=
  ha H (Ex.refl H) _ fun p H1 hp e1 h1 => hb H1 e1 _ fun q H2 hq e2 h2 => ⟨_, _, rfl, k p q H2 hp (fresh_back e1 hq) (ne_of_none h1 hq) (e1.trans e2) (e2 _ _ h1) h2⟩
theorem rev_drop {ns : List Nat} {c : Nat} (h : c < ns.length) : (ns.drop c).reverse = (ns.drop (c + 1)).reverse ++ [ns.getD c 0] := by
  rw [List.drop_eq_getElem_cons h, List.reverse_cons, List.getD_eq_getElem?_getD, List.getElem?_eq_getElem h]
  rfl
section
variable {P : Program} {w : World} {K : PySem.W.Frag} {mg : Str → Option Value} {base : Heap} {C : Addr}
abbrev s_meaning_in : Stmt := top 37
abbrev N_meaning_in : List Str := ["field", "circuit", "numbers", "found", "left", "gate"]
theorem sc_meaning_in : FnScope N_meaning_in ["field", "circuit", "numbers"] (defScope s_meaning_in) := ⟨rfl, rfl, rfl, by decide +kernel, rfl, by decide +kernel, by decide +kernel⟩
def spMeanIn (C : Addr) : Sp := fun vs H Q _ => ∃ (c a : Addr) (f : Nat) (gs : List G) (os : List (Nat × List Nat)) (ns : List Nat), vs = [ni f, .ref c, .ref a] ∧ IsF f ∧ CirAt C H c gs os ∧ OkGs gs ∧ H a = some (.tup (nis ns)) ∧ ns.length = inN gs ∧ (∀ n ∈ ns, n < f) ∧ RetL (nis (means f ns gs)) H Q
theorem spl_meanIn {c a : Addr} {f : Nat} {gs : List G} {os : List (Nat × List Nat)} {ns : List Nat} {H : Hp} (hf : IsF f) (h : CirAt C H c gs os) (ok : OkGs gs) (ha : H a = some (.tup (nis ns))) (hl : ns.length = inN gs) (hn : ∀ n ∈ ns, n < f) : SpL (spMeanIn C) [ni f, .ref c, .ref a] H (nis (means f ns gs)) :=
  fun H1 e Q q E => ⟨c, a, f, gs, os, ns, rfl, hf, h.ex e, ok, e _ _ ha, hl, hn, q⟩
theorem cal_meaning_in (G : Glo mg) (Ci : CiF K mg C) (F : FunX K mg "meaning_in" "meaning_in" "meaning_in" s_meaning_in ["field", "circuit", "numbers"]) : Cal P w K mg base 1 "meaning_in" ["field", "circuit", "numbers"] (spMeanIn C) := by
  refine Cal.mk' F sc_meaning_in (fun vs H Q E h => ?_) (fun f cdv A outer s H vs Q E hr h => ?_)
  · obtain ⟨c, a, f, gs, os, ns, rfl, _⟩ := h
    rfl
  · obtain ⟨c, a, f, gs, os, ns, rfl, hf, hc, ok, ha, hln, hn, k⟩ := h
    refine ⟨_, (pss_cons (ps_par (i := 3) (j := 4) (by rfl) sc_meaning_in.nd rfl rfl (by decide) rfl rfl (pa_cons (pe_lst pa_nil) (pa_cons (pe_revL (pe_callTy call_list_of (by rfl) G.list (by decide +kernel) (pa_cons (pv 2) pa_nil))) pa_nil)) (by rfl))
      (pss_cons (ps_for PassesOwn.never rfl (pi_tup (SlX.pe_sl (pv 1))) (pg_name (i := 5) sc_meaning_in.nd rfl (Or.inl rfl) (Or.inr rfl)) (pss_one (ps_match (pe_ix ix_tup (pv 5) pe_int (fun _ _ => rfl))
        (pm_str (pss_one (ps_expr (pe_bm PySem.F.plainAttrs_list PySem.F.slot_list_append PySem.F.type_list_append mt_append (pv 3) (pa_cons (pe_bm0 PySem.F.plainAttrs_list PySem.F.slot_list_pop PySem.F.type_list_pop mt_pop (pv 4)) pa_nil))))
        (pm_str (pss_one (ps_expr (pe_bm PySem.F.plainAttrs_list PySem.F.slot_list_append PySem.F.type_list_append mt_append (pv 3) (pa_cons (pe_op op_mod (pe_ix ix_tup (pv 5) pe_int (fun _ _ => rfl)) (pv 0)) pa_nil))))
        (pm_str (pss_one (ps_expr (pe_bm PySem.F.plainAttrs_list PySem.F.slot_list_append PySem.F.type_list_append mt_append (pv 3) (pa_cons (pe_op op_mod (pe_op op_add (pe_ix ix_list (pv 3) (pe_ix ix_tup (pv 5) pe_int (fun _ _ => rfl)) (fun _ _ => rfl)) (pe_ix ix_list (pv 3) (pe_ix ix_tup (pv 5) pe_int (fun _ _ => rfl)) (fun _ _ => rfl))) (pv 0)) pa_nil))))
        (pm_str (pss_one (ps_expr (pe_bm PySem.F.plainAttrs_list PySem.F.slot_list_append PySem.F.type_list_append mt_append (pv 3) (pa_cons (pe_op op_mod (pe_op op_mul (pe_ix ix_list (pv 3) (pe_ix ix_tup (pv 5) pe_int (fun _ _ => rfl)) (fun _ _ => rfl)) (pe_ix ix_tup (pv 5) pe_int (fun _ _ => rfl))) (pv 0)) pa_nil))))
        (pm_str (pss_one (ps_expr (pe_bm PySem.F.plainAttrs_list PySem.F.slot_list_append PySem.F.type_list_append mt_append (pv 3) (pa_cons (pe_op op_mod (pe_op op_mul (pe_ix ix_list (pv 3) (pe_ix ix_tup (pv 5) pe_int (fun _ _ => rfl)) (fun _ _ => rfl)) (pe_ix ix_list (pv 3) (pe_ix ix_tup (pv 5) pe_int (fun _ _ => rfl)) (fun _ _ => rfl))) (pv 0)) pa_nil))))
        pm_nil))))))))
      (pss_one (ps_ret (pv 3))))), ?_⟩
    obtain ⟨ga, hg, hev⟩ := ev_g Ci hc
    obtain ⟨vs, h1, h2, h3⟩ := hg.at_
    have hT := SqT.of (K := K) h1
    have haT := SqT.of (K := K) ha
    have f1 := hf.lo
    have f2 := hf.hi
    have hf0 : (0 : Int) < (f : Int) := by omega
    refine q_parLL (K := K) (el_lst ea_nil (by decide)) (el_rev (p := a) (el_listT (ev_var rfl) haT)) fun l r H1 hl hrr hne e1 hl1 hr1 => ?_
    have hev1 := hev H1 e1 [some (ni f), some (.ref c), some (.ref a), some (.ref l), some (.ref r), none] (tVar 1) (ev_var rfl)
    refine q_forT hev1 (ex_t e1 hT) (fun i σ' H' => ∃ o, σ' = [some (ni f), some (.ref c), some (.ref a), some (.ref l), some (.ref r), o] ∧ Ex H H' ∧ H' l = some (.lst (nis (means f ns (gs.take i)))) ∧ H' r = some (.lst (nis (ns.drop (inN (gs.take i))).reverse)))
      (fun H2 e2 => ⟨none, rfl, e1.trans e2, e2 _ _ hl1, by rw [e2 _ _ hr1]; show _ = some (HO.lst (List.map ni (List.drop 0 ns).reverse)); rw [List.map_reverse]; rfl⟩) (fun i σ' H' _ p => by
        obtain ⟨o, rfl, e, _⟩ := p
        exact ex_t e hT) (fun i x σ' H' hx p => ?m1) (fun σ' H' p => ?m2)
    case m2 =>
      obtain ⟨o, rfl, e, p, _⟩ := p
      rw [h2, List.take_length] at p
      exact s_ret (ev_var rfl) fun H2 e2 => k l H2 hl (e.trans e2) (e2 _ _ p)
    case m1 =>
      obtain ⟨o, rfl, e, p, pr⟩ := p
      obtain ⟨q, g, rfl, hgi, hq⟩ := h3 i x hx
      have hq := e _ _ hq
      have hgT := SqT.of (K := K) hq
      have okg := ok.ok i g hgi
      have hi : i < gs.length := (List.getElem?_eq_some_iff.mp hgi).1
      have hlen := means_len_take f ns gs i (by omega)
      have hlt := getD_lt (by omega) (means_lt gs (by omega) hn i (by omega))
      have hz : (nis (means f ns (gs.take i))).length < 100000 := by rw [nis_len, hlen]; have := ok.le; omega
      have fin : ∀ (y : V) H2, y = ni (mval f ns (means f ns (gs.take i)) (inN (gs.take i)) g) → g.isInp = false → Ex H' H2 → ∃ o, [some (ni f), some (V.ref c), some (V.ref a), some (V.ref l), some (V.ref r), some (V.ref q)] = [some (ni f), some (.ref c), some (.ref a), some (.ref l), some (.ref r), o] ∧ Ex H (upd H2 l (.lst (nis (means f ns (gs.take i)) ++ [y]))) ∧ upd H2 l (.lst (nis (means f ns (gs.take i)) ++ [y])) l = some (.lst (nis (means f ns (gs.take (i + 1))))) ∧
          upd H2 l (.lst (nis (means f ns (gs.take i)) ++ [y])) r = some (.lst (nis (ns.drop (inN (gs.take (i + 1)))).reverse)) := fun y H2 hy hg e2 => by
        refine ⟨_, rfl, Ex.mut (e.trans e2) hl, ?_, ?_⟩
        · rw [upd_same, hy, nis_snoc, means_take hgi]
        · rw [upd_ne (Ne.symm hne), e2 _ _ pr, take_snoc hgi, inN_snoc, hg]
          rfl
      have hw : atI g.vs 0 = some (.str g.word) := by cases g <;> rfl
      refine s_match (ev_op (ev_var rfl) ev_c (rv_ixT hgT hw)) fun H2 e2 => ?_
      have hgT := ex_t e2 hgT
      have p := e2 _ _ p
      have pl := sq_of (K := K) p
      cases g with
      | inp h =>
        refine m_yes ?_
        have hc2 : inN (gs.take i) < ns.length := by rw [hln]; exact inN_lt hgi rfl
        have pr := e2 _ _ pr
        rw [rev_drop hc2, ← nis_snoc] at pr
        refine ⟨_, rfl, Or.inl ⟨rfl, _, sq_of p⟩, ⟨_, rfl, Or.inl ⟨rfl, _, sq_of pr⟩, r, _, ni (ns.getD (inN (gs.take i)) 0), rfl, rfl, pr, ?_, l, _, _, rfl, rfl, (by rw [upd_ne hne]; exact p), sz_lt hz, ?_⟩⟩
        · rw [List.length_append, List.getElem?_append_right (by simp), show (nis (ns.drop (inN (gs.take i) + 1)).reverse).length + [ni (ns.getD (inN (gs.take i)) 0)].length - 1 - (nis (ns.drop (inN (gs.take i) + 1)).reverse).length = 0 by simp]
          rfl
        · refine ⟨_, rfl, Ex.mut (Ex.mut (e.trans e2) hrr) hl, ?_, ?_⟩
          · rw [upd_same, nis_snoc, means_take hgi]
            rfl
          · rw [upd_ne (Ne.symm hne), upd_same, List.dropLast_concat, take_snoc hgi, inN_snoc]
            rfl
      | con h =>
        refine m_no w_constant_input (m_yes ?_)
        exact s_app p (ev_var rfl) (ev_op (ev_op (ev_var rfl) ev_c (rv_ixT hgT rfl)) (ev_var rfl) (rv_I hf0)) hz fun H3 e3 => fin _ H3 rfl rfl (e2.trans e3)
      | sum i1 j1 =>
        refine m_no w_sum_input (m_no w_sum_constant (m_yes ?_))
        exact s_app p (ev_var rfl) (ev_op (ev_op (ev_op (ev_var rfl) (ev_op (ev_var rfl) ev_c (rv_ixT hgT rfl)) (rv_ixL pl (at_nis (by rw [hlen]; exact okg.1)))) (ev_op (ev_var rfl) (ev_op (ev_var rfl) ev_c (rv_ixT hgT rfl)) (rv_ixL pl (at_nis (by rw [hlen]; exact okg.2)))) rv_I0) (ev_var rfl) (rv_I hf0)) hz fun H3 e3 => fin _ H3 rfl rfl (e2.trans e3)
      | mul i1 d =>
        have := hlt i1
        refine m_no w_times_input (m_no w_times_constant (m_no w_times_sum (m_yes ?_)))
        exact s_app p (ev_var rfl) (ev_op (ev_op (ev_op (ev_var rfl) (ev_op (ev_var rfl) ev_c (rv_ixT hgT rfl)) (rv_ixL pl (at_nis (by rw [hlen]; exact okg.1)))) (ev_op (ev_var rfl) ev_c (rv_ixT hgT rfl)) (rv_I (Or.inl ⟨by omega, by omega⟩))) (ev_var rfl) (rv_I hf0)) hz fun H3 e3 => fin _ H3 rfl rfl (e2.trans e3)
      | pro i1 j1 =>
        have := hlt i1
        refine m_no w_product_input (m_no w_product_constant (m_no w_product_sum (m_no w_product_times (m_yes ?_))))
        exact s_app p (ev_var rfl) (ev_op (ev_op (ev_op (ev_var rfl) (ev_op (ev_var rfl) ev_c (rv_ixT hgT rfl)) (rv_ixL pl (at_nis (by rw [hlen]; exact okg.1)))) (ev_op (ev_var rfl) (ev_op (ev_var rfl) ev_c (rv_ixT hgT rfl)) (rv_ixL pl (at_nis (by rw [hlen]; exact okg.2)))) (rv_I (Or.inl ⟨by omega, by omega⟩))) (ev_var rfl) (rv_I hf0)) hz fun H3 e3 => fin _ H3 rfl rfl (e2.trans e3)
end
end Ec
set_option maxRecDepth 100000
set_option maxHeartbeats 4000000
/-! the class's defs -/
namespace Ec
open PySem PySem.Spec PyProof.Rows L2 Evl SlX
/-! ### what they are -/
def G.house : G → Nat
  | .inp h => h
  | _ => 0
def inAt (gs : List G) (i : Nat) : Bool := (gs.getD i (.con 0)).isInp
def idx (gs : List G) : List Nat := (List.range gs.length).filter (inAt gs)
def housesOf (gs : List G) : List Nat := (gs.filter G.isInp).map G.house
def idxOf (gs : List G) (h : Nat) : List Nat := (idx gs).filter fun i => decide ((gs.getD i (.con 0)).house = h)
def toldOf (f : Nat) (ns : List Nat) (gs : List G) (os : List (Nat × List Nat)) : List Nat := os.map fun o => (means f ns gs).getD o.1 0
def cStr (n m : Nat) : Str := (((("circuit of " : Str) ++ (toString (n : Int) : String)) ++ (" gates, " : Str)) ++ (toString (m : Int) : String)) ++ (" products" : Str)
theorem countP_range {α : Type} (xs : List α) (d : α) (p : α → Bool) : ((List.range xs.length).filter fun i => p (xs.getD i d)).length = xs.countP p := by
  have h := congrArg (fun z => (List.filter p z).length) (range_getD xs d)
  rw [List.countP_eq_length_filter, ← h]
  show _ = (List.filter p (List.map (fun i => xs.getD i d) (List.range xs.length))).length
  rw [List.filter_map, List.length_map]
  rfl
theorem idx_len (gs : List G) : (idx gs).length = inN gs := countP_range gs (.con 0) G.isInp
theorem eqv_in (g : G) (h : Nat) : PyData.eqv g.d (G.inp h).d = (g.isInp && decide (g.house = h)) := by
  cases g with
  | inp k =>
    show (PyData.eqv (.str "input") (.str "input") && (PyData.eqv (iD k) (iD h) && true)) = (true && decide (k = h))
    rw [eqv_self (n := 0) (sh_str 0 (by decide +kernel)), Bool.and_true, Bool.true_and, Bool.true_and]
    by_cases e : k = h
    · rw [e, eqv_self (sh_i 0 h), decide_eq_true rfl]
    · rw [decide_eq_false e]
      exact decide_eq_false fun z => e (by have := z; omega)
  | con c =>
    show (PyData.eqv (.str "constant") (.str "input") && (PyData.eqv (iD c) (iD h) && true)) = (false && decide (0 = h))
    rw [show PyData.eqv (.str "constant") (.str "input") = false by decide +kernel, Bool.false_and, Bool.false_and]
  | sum i j => exact (eqv_len (by show (3 : Nat) ≠ 2; decide)).trans (Bool.false_and _).symm
  | mul i j => exact (eqv_len (by show (3 : Nat) ≠ 2; decide)).trans (Bool.false_and _).symm
  | pro i j => exact (eqv_len (by show (3 : Nat) ≠ 2; decide)).trans (Bool.false_and _).symm
section
variable {K : PySem.W.Frag} {σ : L2.St} {H : Hp} {ta te : TE}
theorem ev_lenUP {xs : List V} (ha : EvP ta σ H (TupV xs)) : Ev (tCB (rLenS K) (tCons ta tNil)) σ H (.int (xs.length : Int)) := fun H1 e Q q =>
  ha H1 e _ fun v H2 e2 hv => by
    obtain ⟨p, rfl, hp⟩ := hv
    exact ⟨p, xs, rfl, Or.inr (st_of hp), q H2 e2⟩
theorem outs_py {a : Addr} {os : List (Nat × List Nat)} (h : OutsAt H a os) : ∃ (vs : List V) (py : Nat → V), H a = some (.tup vs) ∧ vs.length = os.length ∧ ∀ (i : Nat) x, vs[i]? = some x → ∃ p, x = .ref p ∧ SqT K H p [ni (os.getD i (0, [])).1, py i] := by
  obtain ⟨vs, h1, h2, h3⟩ := h.at_
  have key : ∀ i : Nat, ∃ y : V, ∀ x, vs[i]? = some x → ∃ p, x = .ref p ∧ SqT K H p [ni (os.getD i (0, [])).1, y] := fun i => by
    cases e : vs[i]? with
    | none => exact ⟨.non, fun x h => nomatch h⟩
    | some v =>
      obtain ⟨p, o, rfl, ho, b, hb, _⟩ := h3 i v e
      refine ⟨.ref b, fun x h => ?_⟩
      cases h
      rw [getD_of ho]
      exact ⟨p, rfl, SqT.of hb⟩
  obtain ⟨py, hpy⟩ := Classical.axiomOfChoice key
  exact ⟨vs, py, h1, h2, hpy⟩
end
theorem small_int {n : Nat} (h : n < 100) : (Str.ofString (toString (n : Int))).length ≤ 2 := by
  have key : ((List.range 100).all fun n => decide ((Str.ofString (toString (Int.ofNat n))).length ≤ 2)) = true := by decide +kernel
  exact of_decide_eq_true (List.all_eq_true.mp key n (List.mem_range.mpr h))
theorem log_small {n : Nat} (h : n < 100) : (n : Int).natAbs.log2 < 1920 := by
  have e : (n : Int).natAbs = n := rfl
  rw [e]
  have h2 : n.log2 ≤ n := Nat.log2_le_self n
  omega
section
variable {P : Program} {w : World} {K : PySem.W.Frag} {mg : Str → Option Value} {base : Heap} {C : Addr}
abbrev s_are_numbers : Stmt := top 40
abbrev N_are_numbers : List Str := ["field", "value", "many", "one"]
theorem sc_are_numbers : FnScope N_are_numbers ["field", "value", "many"] (defScope s_are_numbers) := ⟨rfl, rfl, rfl, by decide +kernel, rfl, by decide +kernel, by decide +kernel⟩
abbrev s_require_numbers : Stmt := top 41
abbrev N_require_numbers : List Str := ["field", "circuit", "numbers"]
theorem sc_require_numbers : FnScope N_require_numbers ["field", "circuit", "numbers"] (defScope s_require_numbers) := ⟨rfl, rfl, rfl, by decide +kernel, rfl, by decide +kernel, by decide +kernel⟩
abbrev s_C_init : Stmt := inClass (top 36) 1
abbrev N_C_init : List Str := ["self", "gates", "outputs"]
theorem sc_C_init : FnScope N_C_init ["self", "gates", "outputs"] (defScope s_C_init) := ⟨rfl, rfl, rfl, by decide +kernel, rfl, by decide +kernel, by decide +kernel⟩
abbrev s_C_gates : Stmt := inClass (top 36) 2
abbrev N_C_gates : List Str := ["self"]
theorem sc_C_gates : FnScope N_C_gates ["self"] (defScope s_C_gates) := ⟨rfl, rfl, rfl, by decide +kernel, rfl, by decide +kernel, by decide +kernel⟩
abbrev s_C_outputs : Stmt := inClass (top 36) 3
abbrev N_C_outputs : List Str := ["self"]
theorem sc_C_outputs : FnScope N_C_outputs ["self"] (defScope s_C_outputs) := ⟨rfl, rfl, rfl, by decide +kernel, rfl, by decide +kernel, by decide +kernel⟩
abbrev s_C_inputs : Stmt := inClass (top 36) 4
abbrev N_C_inputs : List Str := ["self", "at", "gate"]
theorem sc_C_inputs : FnScope N_C_inputs ["self"] (defScope s_C_inputs) := ⟨rfl, rfl, rfl, by decide +kernel, rfl, by decide +kernel, by decide +kernel⟩
abbrev s_C_houses : Stmt := inClass (top 36) 5
abbrev N_C_houses : List Str := ["self", "gate"]
theorem sc_C_houses : FnScope N_C_houses ["self"] (defScope s_C_houses) := ⟨rfl, rfl, rfl, by decide +kernel, rfl, by decide +kernel, by decide +kernel⟩
abbrev s_C_levels : Stmt := inClass (top 36) 6
abbrev N_C_levels : List Str := ["self"]
theorem sc_C_levels : FnScope N_C_levels ["self"] (defScope s_C_levels) := ⟨rfl, rfl, rfl, by decide +kernel, rfl, by decide +kernel, by decide +kernel⟩
abbrev s_C_inputs_of : Stmt := inClass (top 36) 7
abbrev N_C_inputs_of : List Str := ["self", "house", "at", "gate"]
theorem sc_C_inputs_of : FnScope N_C_inputs_of ["self", "house"] (defScope s_C_inputs_of) := ⟨rfl, rfl, rfl, by decide +kernel, rfl, by decide +kernel, by decide +kernel⟩
abbrev s_C_meaning : Stmt := inClass (top 36) 8
abbrev N_C_meaning : List Str := ["self", "field", "numbers"]
theorem sc_C_meaning : FnScope N_C_meaning ["self", "field", "numbers"] (defScope s_C_meaning) := ⟨rfl, rfl, rfl, by decide +kernel, rfl, by decide +kernel, by decide +kernel⟩
abbrev s_C_told : Stmt := inClass (top 36) 9
abbrev N_C_told : List Str := ["self", "field", "numbers", "found", "gate", "houses"]
theorem sc_C_told : FnScope N_C_told ["self", "field", "numbers"] (defScope s_C_told) := ⟨rfl, rfl, rfl, by decide +kernel, rfl, by decide +kernel, by decide +kernel⟩
abbrev s_C_eq : Stmt := inClass (top 36) 10
abbrev N_C_eq : List Str := ["self", "other"]
theorem sc_C_eq : FnScope N_C_eq ["self", "other"] (defScope s_C_eq) := ⟨rfl, rfl, rfl, by decide +kernel, rfl, by decide +kernel, by decide +kernel⟩
abbrev s_C_str : Stmt := inClass (top 36) 11
abbrev N_C_str : List Str := ["self"]
theorem sc_C_str : FnScope N_C_str ["self"] (defScope s_C_str) := ⟨rfl, rfl, rfl, by decide +kernel, rfl, by decide +kernel, by decide +kernel⟩
def spNumbers : Sp := fun vs H Q _ => ∃ (a : Addr) (f m : Nat) (ns : List Nat), vs = [ni f, .ref a, ni m] ∧ IsF f ∧ H a = some (.tup (nis ns)) ∧ ns.length = m ∧ ns.length ≤ 100 ∧ (∀ n ∈ ns, n < f) ∧ RetV (.bl true) H Q
theorem spv_numbers {a : Addr} {f m : Nat} {ns : List Nat} {H : Hp} (hf : IsF f) (ha : H a = some (.tup (nis ns))) (hl : ns.length = m) (h100 : ns.length ≤ 100) (hn : ∀ n ∈ ns, n < f) : SpV spNumbers [ni f, .ref a, ni m] H (.bl true) := fun H1 e Q q E => ⟨a, f, m, ns, rfl, hf, e _ _ ha, hl, h100, hn, q⟩
theorem cal_are_numbers (G : Glo mg) (c_is_number : Cal P w K mg base 5 "is_number" ["field", "value"] spNumber) (F : FunX K mg "are_numbers" "are_numbers" "are_numbers" s_are_numbers ["field", "value", "many"]) : Cal P w K mg base 6 "are_numbers" ["field", "value", "many"] spNumbers := by
  refine Cal.mk' F sc_are_numbers (fun vs H Q E h => ?_) (fun f cdv A outer s H vs Q E hr h => ?_)
  · obtain ⟨a, f, m, ns, rfl, _⟩ := h
    rfl
  · obtain ⟨a, f, m, ns, rfl, hf, ha, hl, h100, hn, k⟩ := h
    refine ⟨_, (pss_one (ps_ret (pe_and (pe_callB call_isi (by rfl) G.isinstance (by decide +kernel) (pa_cons (pv 1) (pa_cons (pe_ty "tuple" rfl G.tuple (by decide +kernel)) pa_nil))) (pe_and (pe_cmpR op_eq (pe_callB call_len_seq (by rfl) G.len PySem.boot_len (pa_cons (pv 1) pa_nil)) (pv 2) (nomark _)) (pe_one (pe_callB (cr_all rfl) (by rfl) G.all (by decide +kernel) (pa_cons (pe_lc (own := [("one", 3)]) rfl sc_are_numbers.nd (pi_tup (pv 1)) (blkOk_by (own := [("one", 3)]) (N := N_are_numbers) (sc := defScope s_are_numbers) (by decide +kernel)) (fun _ _ _ _ _ => (pg_name (i := 3) sc_are_numbers.nd rfl (Or.inl rfl) (Or.inr rfl))) (fun _ _ _ _ _ => pts_nil) (fun _ _ _ _ _ => (pe_cal c_is_number (hr.mono (by decide)) (by rfl) (pa_cons (pv 0) (pa_cons (pv 3) pa_nil))))) pa_nil))))))), ?_⟩
    have hT := SqT.of (K := K) ha
    refine s_ret (ev_andV (ev_isi_tup (ev_var rfl) ha kb_tup) fun _ => ev_andV (ev_is (ev_op (ev_lenT (ev_var rfl) hT) (ev_var rfl) (rv_eq rfl)) (congrArg V.bl (decide_eq_true (by rw [nis_len, hl]; rfl) : _ = true))) fun _ =>
      ev_allR (b := fun _ => true) (el_lcT (fun _ => true) (fun _ => .bl true) (ev_var rfl) hT (by rw [nis_len]; omega) (fun _ => rfl) (fun _ _ _ _ _ => et_yes) fun i v H2 e2 hv _ => ?m) fun _ _ => rfl) k
    obtain ⟨n, hn', rfl⟩ := nis_at hv
    exact ev_cal (ea_cons (ev_var rfl) (ea_cons (ev_var rfl) ea_nil)) (spv_number hf (hn n (List.mem_of_getElem? hn')) H2)
/-- the circuit a, its gates, its outputs -/
structure Cir (C : Addr) (H : Hp) (a : Addr) (gs : List G) (os : List (Nat × List Nat)) : Prop where
  at_ : CirAt C H a gs os
  g : OkGs gs
  o : OkOs gs.length os
theorem Cir.ex {H H' : Hp} {a : Addr} {gs : List G} {os : List (Nat × List Nat)} (h : Cir C H a gs os) (e : Ex H H') : Cir C H' a gs os := ⟨h.at_.ex e, h.g, h.o⟩
theorem OkGs.inN {gs : List G} (h : OkGs gs) : Ec.inN gs ≤ 8 := h.inp
/-- the promise of a property, a method -/
def RetP (R : V → Hp → Prop) (H : Hp) (Q : VK) : Prop := ∀ v H2, Ex H H2 → R v H2 → Q v H2
def spProp (C : Addr) (R : List G → List (Nat × List Nat) → V → Hp → Prop) : Sp := fun vs H Q _ => ∃ (a : Addr) (gs : List G) (os : List (Nat × List Nat)), vs = [.ref a] ∧ Cir C H a gs os ∧ RetP (R gs os) H Q
theorem spp_prop {R : List G → List (Nat × List Nat) → V → Hp → Prop} {H : Hp} {a : Addr} {gs : List G} {os : List (Nat × List Nat)} (h : Cir C H a gs os) : SpP (spProp C R) [.ref a] H (R gs os) := fun H1 e Q q E => ⟨a, gs, os, rfl, h.ex e, q⟩
theorem at_gates (Ci : CiF K mg C) (F : FunAt K (RProp K C "gates") "gates" "Circuit.gates" s_C_gates ["self"]) : AtF P w K mg base 1 (RProp K C "gates") ["self"] (spProp C fun gs os v H => ∃ ga, v = .ref ga ∧ GatesAt H ga gs) := by
  refine AtF.mk' F sc_C_gates (fun vs H Q E h => ?_) (fun f cdv A outer s H vs Q E hr h => ?_)
  · obtain ⟨a, gs, os, rfl, _⟩ := h
    rfl
  · obtain ⟨a, gs, os, rfl, hc, k⟩ := h
    refine ⟨_, (pss_one (ps_ret (SlX.pe_sl (pv 0)))), ?_⟩
    obtain ⟨ga, hg, hev⟩ := ev_g Ci hc.at_
    exact s_ret (hev H (Ex.refl H) _ _ (ev_var rfl)) fun H2 e2 => k _ H2 e2 ⟨ga, rfl, hg.ex e2⟩
theorem at_outputs (Ci : CiF K mg C) (F : FunAt K (RProp K C "outputs") "outputs" "Circuit.outputs" s_C_outputs ["self"]) : AtF P w K mg base 1 (RProp K C "outputs") ["self"] (spProp C fun gs os v H => ∃ oa, v = .ref oa ∧ OutsAt H oa os) := by
  refine AtF.mk' F sc_C_outputs (fun vs H Q E h => ?_) (fun f cdv A outer s H vs Q E hr h => ?_)
  · obtain ⟨a, gs, os, rfl, _⟩ := h
    rfl
  · obtain ⟨a, gs, os, rfl, hc, k⟩ := h
    refine ⟨_, (pss_one (ps_ret (SlX.pe_sl (pv 0)))), ?_⟩
    obtain ⟨ga, hg, hev⟩ := ev_o Ci hc.at_
    exact s_ret (hev H (Ex.refl H) _ _ (ev_var rfl)) fun H2 e2 => k _ H2 e2 ⟨ga, rfl, hg.ex e2⟩
theorem at_word (g : G) : atI g.vs 0 = some (.str g.word) := by cases g <;> rfl
theorem dec_word (g : G) (z : Str) : decide (V.str g.word = V.str z) = decide (g.word = z) := decide_eq_decide.mpr ⟨fun h => V.str.inj h, fun h => congrArg V.str h⟩
theorem at_inputs (G : Glo mg) (Ci : CiF K mg C) (F : FunAt K (RProp K C "inputs") "inputs" "Circuit.inputs" s_C_inputs ["self"]) : AtF P w K mg base 1 (RProp K C "inputs") ["self"] (spProp C fun gs os => TupV (nis (idx gs))) := by
  refine AtF.mk' F sc_C_inputs (fun vs H Q E h => ?_) (fun f cdv A outer s H vs Q E hr h => ?_)
  · obtain ⟨a, gs, os, rfl, _⟩ := h
    rfl
  · obtain ⟨a, gs, os, rfl, hc, k⟩ := h
    refine ⟨_, (pss_one (ps_ret (pe_callTy call_tuple_of (by rfl) G.tuple (by decide +kernel) (pa_cons (pe_lc (own := [("at", 1), ("gate", 2)]) rfl sc_C_inputs.nd (pi_enumT (by rfl) G.enumerate (pa_cons (SlX.pe_sl (pv 0)) pa_nil)) (blkOk_by (own := [("at", 1), ("gate", 2)]) (N := N_C_inputs) (sc := defScope s_C_inputs) (by decide +kernel)) (fun _ _ _ _ _ => (pgTupK K 2 rfl rfl (pgs_cons (pg_name (i := 1) sc_C_inputs.nd rfl (Or.inl rfl) (Or.inr rfl)) (pgs_cons (pg_name (i := 2) sc_C_inputs.nd rfl (Or.inl rfl) (Or.inr rfl)) pgs_nil)) rfl)) (fun _ _ _ _ _ => (pts_one (pt_cmpR op_eq (pe_ix (ixTK K rfl) (pv 2) pe_int (fun _ _ => rfl)) (pe_gs G.cINPUT rfl) (nomark _)))) (fun _ _ _ _ _ => (pv 1))) pa_nil)))), ?_⟩
    obtain ⟨ga, hg, hev⟩ := ev_g Ci hc.at_
    obtain ⟨vs, h1, h2, h3⟩ := hg.at_
    have hT := SqT.of (K := K) h1
    have l60 := hc.g.le
    refine s_retU (eu_tupN (el_is (el_lcE (xs := vs) (inAt gs) ni (ea_cons (hev H (Ex.refl H) _ _ (ev_var rfl)) ea_nil) hT (by omega) (fun _ _ => rfl) (fun i x H1 e1 hx => ?m1) (fun i x H1 e1 hx _ => ev_var rfl)) ?m2)) fun p H1 _ e1 hp => k _ H1 e1 ⟨p, rfl, hp⟩
    case m1 =>
      obtain ⟨q, g, rfl, hgi, hq⟩ := h3 i x hx
      refine et_is (et_test (ev_op (ev_op (ev_var rfl) ev_c (rv_ixT (SqT.of (e1 _ _ hq)) (at_word g))) ev_c (rv_eq rfl))) ?_
      unfold inAt
      rw [getD_of hgi, dec_word]
      exact w_inp g
    case m2 =>
      rw [h2]
      rfl
theorem at_houses (G : Glo mg) (Ci : CiF K mg C) (F : FunAt K (RProp K C "houses") "houses" "Circuit.houses" s_C_houses ["self"]) : AtF P w K mg base 1 (RProp K C "houses") ["self"] (spProp C fun gs os => TupV (nis (housesOf gs))) := by
  refine AtF.mk' F sc_C_houses (fun vs H Q E h => ?_) (fun f cdv A outer s H vs Q E hr h => ?_)
  · obtain ⟨a, gs, os, rfl, _⟩ := h
    rfl
  · obtain ⟨a, gs, os, rfl, hc, k⟩ := h
    refine ⟨_, (pss_one (ps_ret (pe_callTy call_tuple_of (by rfl) G.tuple (by decide +kernel) (pa_cons (pe_lc (own := [("gate", 1)]) rfl sc_C_houses.nd (pi_tup (SlX.pe_sl (pv 0))) (blkOk_by (own := [("gate", 1)]) (N := N_C_houses) (sc := defScope s_C_houses) (by decide +kernel)) (fun _ _ _ _ _ => (pg_name (i := 1) sc_C_houses.nd rfl (Or.inl rfl) (Or.inr rfl))) (fun _ _ _ _ _ => (pts_one (pt_cmpR op_eq (pe_ix (ixTK K rfl) (pv 1) pe_int (fun _ _ => rfl)) (pe_gs G.cINPUT rfl) (nomark _)))) (fun _ _ _ _ _ => (pe_ix (ixTK K rfl) (pv 1) pe_int (fun _ _ => rfl)))) pa_nil)))), ?_⟩
    obtain ⟨ga, hg, hev⟩ := ev_g Ci hc.at_
    obtain ⟨vs, h1, h2, h3⟩ := hg.at_
    have hT := SqT.of (K := K) h1
    have l60 := hc.g.le
    refine s_retU (eu_tupN (el_is (el_lcT (xs := vs) (inAt gs) (fun i => ni (gs.getD i (.con 0)).house) (hev H (Ex.refl H) _ _ (ev_var rfl)) hT (by omega) (fun _ => rfl) (fun i x H1 e1 hx => ?m1) (fun i x H1 e1 hx hf => ?m3)) ?m2)) fun p H1 _ e1 hp => k _ H1 e1 ⟨p, rfl, hp⟩
    case m1 =>
      obtain ⟨q, g, rfl, hgi, hq⟩ := h3 i x hx
      refine et_is (et_test (ev_op (ev_op (ev_var rfl) ev_c (rv_ixT (SqT.of (e1 _ _ hq)) (at_word g))) ev_c (rv_eq rfl))) ?_
      unfold inAt
      rw [getD_of hgi, dec_word]
      exact w_inp g
    case m3 =>
      obtain ⟨q, g, rfl, hgi, hq⟩ := h3 i x hx
      unfold inAt at hf
      rw [getD_of hgi] at hf
      rw [getD_of hgi]
      cases g with
      | inp h => exact ev_op (ev_var rfl) ev_c (rv_ixT (SqT.of (e1 _ _ hq)) rfl)
      | con c => cases hf
      | sum i j => cases hf
      | mul i j => cases hf
      | pro i j => cases hf
    case m2 =>
      rw [h2]
      refine (given_of gs (.con 0) Ec.G.isInp (fun g => ni g.house)).trans ?_
      unfold nis housesOf
      rw [List.map_map]
      rfl
theorem at_levels (Ci : CiF K mg C) (c_products_of : Cal P w K mg base 2 "products_of" ["gates"] spProds) (F : FunAt K (RProp K C "levels") "levels" "Circuit.levels" s_C_levels ["self"]) : AtF P w K mg base 3 (RProp K C "levels") ["self"] (spProp C fun gs os => DpV K (nssD (prodss gs))) := by
  refine AtF.mk' F sc_C_levels (fun vs H Q E h => ?_) (fun f cdv A outer s H vs Q E hr h => ?_)
  · obtain ⟨a, gs, os, rfl, _⟩ := h
    rfl
  · obtain ⟨a, gs, os, rfl, hc, k⟩ := h
    refine ⟨_, (pss_one (ps_ret (pe_cal c_products_of (hr.mono (by decide)) (by rfl) (pa_cons (SlX.pe_sl (pv 0)) pa_nil)))), ?_⟩
    obtain ⟨ga, hg, hev⟩ := ev_g Ci hc.at_
    exact s_retP (evp_cal (R := DpV K (nssD (prodss gs))) (ea_cons (hev H (Ex.refl H) _ _ (ev_var rfl)) ea_nil) fun H1 e1 Q q E => ⟨ga, gs, rfl, hg.ex e1, hc.g, fun p H2 e2 hp => q _ H2 e2 (dp_nss hp)⟩) k
end
end Ec
set_option maxRecDepth 100000
set_option maxHeartbeats 4000000
/-! the class's defs, on -/
namespace Ec
open PySem PySem.Spec PyProof.Rows L2 Evl SlX
section
variable {P : Program} {w : World} {K : PySem.W.Frag} {mg : Str → Option Value} {base : Heap} {C : Addr}
/-- numbers handed to a circuit -/
structure Nums (H : Hp) (a : Addr) (f : Nat) (ns : List Nat) (gs : List G) : Prop where
  fld : IsF f
  at_ : H a = some (.tup (nis ns))
  len : ns.length = inN gs
  lt : ∀ n ∈ ns, n < f
theorem Nums.ex {H H' : Hp} {a : Addr} {f : Nat} {ns : List Nat} {gs : List G} (h : Nums H a f ns gs) (e : Ex H H') : Nums H' a f ns gs := ⟨h.fld, e _ _ h.at_, h.len, h.lt⟩
def spReqN (C : Addr) : Sp := fun vs H Q _ => ∃ (c a : Addr) (f : Nat) (gs : List G) (os : List (Nat × List Nat)) (ns : List Nat), vs = [ni f, .ref c, .ref a] ∧ Cir C H c gs os ∧ Nums H a f ns gs ∧ RetV .non H Q
theorem spv_reqN {c a : Addr} {f : Nat} {gs : List G} {os : List (Nat × List Nat)} {ns : List Nat} {H : Hp} (hc : Cir C H c gs os) (hn : Nums H a f ns gs) : SpV (spReqN C) [ni f, .ref c, .ref a] H .non := fun H1 e Q q E => ⟨c, a, f, gs, os, ns, rfl, hc.ex e, hn.ex e, q⟩
theorem cal_require_numbers (G : Glo mg) (Ci : CiF K mg C) (c_require_field_circuits : Cal P w K mg base 4 "require_field_circuits" ["value"] spReq) (c_are_numbers : Cal P w K mg base 6 "are_numbers" ["field", "value", "many"] spNumbers)
    (p_inputs : AtF P w K mg base 1 (RProp K C "inputs") ["self"] (spProp C fun gs os => TupV (nis (idx gs)))) (F : FunX K mg "require_numbers" "require_numbers" "require_numbers" s_require_numbers ["field", "circuit", "numbers"]) :
    Cal P w K mg base 7 "require_numbers" ["field", "circuit", "numbers"] (spReqN C) := by
  refine Cal.mk' F sc_require_numbers (fun vs H Q E h => ?_) (fun f cdv A outer s H vs Q E hr h => ?_)
  · obtain ⟨c, a, f, gs, os, ns, rfl, _⟩ := h
    rfl
  · obtain ⟨c, a, f, gs, os, ns, rfl, hc, hn, k⟩ := h
    refine ⟨_, (pss_cons (ps_expr (pe_cal c_require_field_circuits (hr.mono (by decide)) (by rfl) (pa_cons (pv 0) pa_nil)))
      (pss_one (ps_if (pt_not (pt_val (pe_cal c_are_numbers (hr.mono (by decide)) (by rfl) (pa_cons (pv 0) (pa_cons (pv 2) (pa_cons (pe_callB call_len_seq (by rfl) G.len PySem.boot_len (pa_cons (pe_pcal p_inputs Ci.sc (hr.mono (by decide)) (pv 1)) pa_nil)) pa_nil)))))) (pss_one ps_never) pss_nil))), ?_⟩
    refine q_drop (ev_cal (ea_cons (ev_var rfl) ea_nil) (spv_req hn.fld H)) fun H1 e1 => ?_
    have hc1 := hc.ex e1
    have hn1 := hn.ex e1
    have h8 := hc.g.inN
    exact s_when (b := false) (et_not (et_B (ev_cal (ea_cons (ev_var rfl) (ea_cons (ev_var rfl) (ea_cons (ev_is (ev_lenUP (evp_prop (ev_var rfl) hc1.at_ (spp_prop (R := fun gs os => TupV (nis (idx gs))) hc1))) (by rw [nis_len, idx_len]; rfl : _ = ni (inN gs))) ea_nil))) (spv_numbers (m := inN gs) hn1.fld hn1.at_ hn1.len (by have := hn.len; omega) hn1.lt)))) (fun h => nomatch h) fun _ H2 e2 => k H2 (e1.trans e2)
def spInit (C : Addr) : Sp := fun vs H Q _ => ∃ (x ga oa dx : Addr) (gs : List G) (os : List (Nat × List Nat)), vs = [.ref x, .ref ga, .ref oa] ∧ Slt H x C dx [] ∧ dx ≠ x ∧ GatesAt H ga gs ∧ OutsAt H oa os ∧ OkGs gs ∧ OkOs gs.length os ∧
  ∀ H2, (∀ a o, a ≠ x → a ≠ dx → H a = some o → H2 a = some o) → Slt H2 x C dx [some (.ref ga), some (.ref oa)] → Q .non H2
theorem at_init (G : Glo mg) (Ci : CiF K mg C) (c_are_gates : Cal P w K mg base 3 "are_gates" ["value"] spGates) (c_are_outputs : Cal P w K mg base 4 "are_outputs" ["value", "many"] spOutputs)
    (F : FunAt K (RMk K C) "__init__" "Circuit.__init__" s_C_init ["self", "gates", "outputs"]) : AtF P w K mg base 5 (RMk K C) ["self", "gates", "outputs"] (spInit C) := by
  refine AtF.mk' F sc_C_init (fun vs H Q E h => ?_) (fun f cdv A outer s H vs Q E hr h => ?_)
  · obtain ⟨x, ga, oa, dx, gs, os, rfl, _⟩ := h
    rfl
  · obtain ⟨x, ga, oa, dx, gs, os, rfl, hs, hd, hg, ho, okg, oko, k⟩ := h
    refine ⟨_, (pss_cons (ps_if (PW.pt (pw_or (pt_not (pt_val (pe_cal c_are_gates (hr.mono (by decide)) (by rfl) (pa_cons (pv 1) pa_nil)))) (pw_or1 (pt_not (pt_val (pe_cal c_are_outputs (hr.mono (by decide)) (by rfl) (pa_cons (pv 2) (pa_cons (pe_callB call_len_seq (by rfl) G.len PySem.boot_len (pa_cons (pv 1) pa_nil)) pa_nil)))))))) (pss_one ps_never) pss_nil)
      (pss_cons (SlX.ps_sl (pv 0) (pv 1))
      (pss_one (SlX.ps_sl (pv 0) (pv 2))))), ?_⟩
    obtain ⟨vs, h1, h2, h3⟩ := hg.at_
    have hT := SqT.of (K := K) h1
    obtain ⟨p0, s0⟩ := Ci.s0
    obtain ⟨p1, s1⟩ := Ci.s1
    refine q_when (b := false) (et_or (et_not (et_B (ev_cal (ea_cons (ev_var rfl) ea_nil) (spv_gates hg okg)))) fun _ => et_not (et_B (ev_cal (ea_cons (ev_var rfl) (ea_cons (ev_is (ev_lenT (ev_var rfl) hT) (by rw [h2]; rfl : _ = ni gs.length)) ea_nil)) (spv_outputs ho oko)))) (fun h => nomatch h) fun _ H1 e1 => ?_
    have hs1 := slt_ex hs e1
    refine ⟨_, rfl, _, rfl, x, C, dx, p0, _, 0, rfl, hs1, Ci.sc, s0, ?_⟩
    refine ⟨_, rfl, _, rfl, x, C, dx, p1, _, 1, rfl, slH_slt hd, Ci.sc, s1, ?_⟩
    refine k _ (fun a o n1 n2 h => ?_) (slH_slt hd)
    rw [slH_ne n1 n2, slH_ne n1 n2]
    exact e1 _ _ h
/-- a circuit is made -/
def MkA (gs : List G) (os : List (Nat × List Nat)) : List V → Hp → Prop := fun vs H => ∃ ga oa, vs = [.ref ga, .ref oa] ∧ GatesAt H ga gs ∧ OutsAt H oa os
theorem evp_mkR {σ : L2.St} {H : Hp} {tas : TA} {gs : List G} {os : List (Nat × List Nat)} (ha : EvAR tas σ H (MkA gs os)) (okg : OkGs gs) (oko : OkOs gs.length os) :
    EvP (tMake C (spInit C) [] E0 tas) σ H fun v H2 => ∃ a, v = .ref a ∧ Cir C H2 a gs os := fun H1 e Q q =>
  ha H1 e _ fun vs H2 e2 hv x dx hx hdx hne => by
    obtain ⟨ga, oa, rfl, hg, ho⟩ := hv
    have e3 : Ex H2 (upd (upd H2 dx (.own x)) x (.ins C dx [])) := (Ex.new hdx).trans (Ex.new (by rw [upd_ne (Ne.symm hne)]; exact hx))
    refine ⟨x, ga, oa, dx, gs, os, rfl, .inl ⟨upd_same, rfl⟩, hne, hg.ex e3, ho.ex e3, okg, oko, fun H4 k4 hs => ⟨rfl, ?_⟩⟩
    have e4 : Ex H2 H4 := fun a o h => k4 a o (ne_of_none h hx) (ne_of_none h hdx) (e3 _ _ h)
    exact q _ H4 (e2.trans e4) ⟨x, rfl, ⟨⟨dx, ga, oa, hs, hg.ex e4, ho.ex e4⟩, okg, oko⟩⟩
theorem evp_mkC {σ : L2.St} {H : Hp} {tas : TA} {ga oa : Addr} {gs : List G} {os : List (Nat × List Nat)} (ha : EvA tas σ H [.ref ga, .ref oa]) (hg : GatesAt H ga gs) (ho : OutsAt H oa os) (okg : OkGs gs) (oko : OkOs gs.length os) :
    EvP (tMake C (spInit C) [] E0 tas) σ H fun v H2 => ∃ a, v = .ref a ∧ Cir C H2 a gs os := evp_mkR ((ear_of ha).imp fun vs H2 e h => ⟨ga, oa, h, hg.ex e, ho.ex e⟩) okg oko
end
end Ec
set_option maxRecDepth 100000
set_option maxHeartbeats 4000000
/-! the class's defs, to the end -/
namespace Ec
open PySem PySem.Spec PyProof.Rows L2 Evl SlX
theorem idxOf_eq (gs : List G) (h : Nat) : idxOf gs h = (List.range gs.length).filter fun i => PyData.eqv (gs.getD i (.con 0)).d (G.inp h).d := by
  unfold idxOf idx
  rw [List.filter_filter]
  refine List.filter_congr fun i _ => ?_
  rw [eqv_in, Bool.and_comm]
  rfl
section
variable {P : Program} {w : World} {K : PySem.W.Frag} {mg : Str → Option Value} {base : Heap} {C : Addr}
def spIn (C : Addr) : Sp := fun vs H Q _ => ∃ (a : Addr) (h : Nat) (gs : List G) (os : List (Nat × List Nat)), vs = [.ref a, ni h] ∧ 1 ≤ h ∧ h ≤ 9 ∧ Cir C H a gs os ∧ RetP (TupV (nis (idxOf gs h))) H Q
theorem spp_in {a : Addr} {h : Nat} {gs : List G} {os : List (Nat × List Nat)} {H : Hp} (h1 : 1 ≤ h) (h9 : h ≤ 9) (hc : Cir C H a gs os) : SpP (spIn C) [.ref a, ni h] H (TupV (nis (idxOf gs h))) := fun H1 e Q q E => ⟨a, h, gs, os, rfl, h1, h9, hc.ex e, q⟩
theorem at_inputs_of (G : Glo mg) (Ci : CiF K mg C) (c_is_from : Cal P w K mg base 1 "is_from" ["value", "least", "most"] spWith) (F : FunAt K (RMeth K C "inputs_of") "inputs_of" "Circuit.inputs_of" s_C_inputs_of ["self", "house"]) : AtF P w K mg base 2 (RMeth K C "inputs_of") ["self", "house"] (spIn C) := by
  refine AtF.mk' F sc_C_inputs_of (fun vs H Q E h => ?_) (fun f cdv A outer s H vs Q E hr h => ?_)
  · obtain ⟨a, h, gs, os, rfl, _⟩ := h
    rfl
  · obtain ⟨a, h, gs, os, rfl, hh1, hh9, hc, k⟩ := h
    refine ⟨_, (pss_cons (ps_if (pt_not (pt_val (pe_cal c_is_from (hr.mono (by decide)) (by rfl) (pa_cons (pv 1) (pa_cons pe_int (pa_cons (pe_gi G.cMOST_HOUSE rfl) pa_nil)))))) (pss_one ps_never) pss_nil)
      (pss_one (ps_ret (pe_callTy call_tuple_of (by rfl) G.tuple (by decide +kernel) (pa_cons (pe_lc (own := [("at", 2), ("gate", 3)]) rfl sc_C_inputs_of.nd (pi_enumT (by rfl) G.enumerate (pa_cons (SlX.pe_sl (pv 0)) pa_nil)) (blkOk_by (own := [("at", 2), ("gate", 3)]) (N := N_C_inputs_of) (sc := defScope s_C_inputs_of) (by decide +kernel)) (fun _ _ _ _ _ => (pgTupK K 2 rfl rfl (pgs_cons (pg_name (i := 2) sc_C_inputs_of.nd rfl (Or.inl rfl) (Or.inr rfl)) (pgs_cons (pg_name (i := 3) sc_C_inputs_of.nd rfl (Or.inl rfl) (Or.inr rfl)) pgs_nil)) rfl)) (fun _ _ _ _ _ => (pts_one (pt_cmpR (opEqDK K rfl hr.units) (pv 3) (pe_tup (pa_cons (pe_gs G.cINPUT rfl) (pa_cons (pv 1) pa_nil))) (nomark _)))) (fun _ _ _ _ _ => (pv 2))) pa_nil))))), ?_⟩
    obtain ⟨ga, hg, hev⟩ := ev_g Ci hc.at_
    obtain ⟨vs, h1, h2, h3⟩ := hg.at_
    have hT := SqT.of (K := K) h1
    have l60 := hc.g.le
    refine q_when (b := false) (et_not (et_B (ev_cal (ea_cons (ev_var rfl) (ea_cons ev_c (ea_cons ev_c ea_nil))) (spv_with (b := true) (by simp; omega))))) (fun h => nomatch h) fun _ H1 e1 => ?_
    refine s_retU (eu_tupN (el_is (el_lcE (xs := vs) (fun i => PyData.eqv (gs.getD i (.con 0)).d (Ec.G.inp h).d) ni (ea_cons (hev H1 e1 _ _ (ev_var rfl)) ea_nil) (ex_t e1 hT) (by omega) (fun _ _ => rfl) (fun i x H2 e2 hx => ?m1) (fun i x H2 e2 hx _ => ev_var rfl)) ?m2)) fun p H2 _ e2 hp => k _ H2 (e1.trans e2) ⟨p, rfl, hp⟩
    case m1 =>
      obtain ⟨q, g, rfl, hgi, hq⟩ := h3 i x hx
      refine et_test (ev_is (ev_eqP (d := g.d) (e := (Ec.G.inp h).d) (evp_dp (ev_var rfl) (dp_g ((e1.trans e2) _ _ hq))) ((evp_U (eu_tup (ea_cons ev_c (ea_cons (ev_var rfl) ea_nil)) (Nat.le_of_ble_eq_true rfl))).imp fun v H3 e3 hv => ?_) ((sh_g g).ok (by decide)) ((sh_g _).ok (by decide))) ?_)
      · obtain ⟨p, rfl, hp⟩ := hv
        exact dp_g (g := .inp h) hp
      · rw [getD_of hgi]
    case m2 =>
      rw [h2, idxOf_eq]
      rfl
def spMean (C : Addr) (R : Nat → List Nat → List G → List (Nat × List Nat) → V → Hp → Prop) : Sp := fun vs H Q _ => ∃ (c a : Addr) (f : Nat) (gs : List G) (os : List (Nat × List Nat)) (ns : List Nat), vs = [.ref c, ni f, .ref a] ∧ Cir C H c gs os ∧ Nums H a f ns gs ∧ RetP (R f ns gs os) H Q
theorem spp_mean {R : Nat → List Nat → List G → List (Nat × List Nat) → V → Hp → Prop} {c a : Addr} {f : Nat} {gs : List G} {os : List (Nat × List Nat)} {ns : List Nat} {H : Hp} (hc : Cir C H c gs os) (hn : Nums H a f ns gs) : SpP (spMean C R) [.ref c, ni f, .ref a] H (R f ns gs os) :=
  fun H1 e Q q E => ⟨c, a, f, gs, os, ns, rfl, hc.ex e, hn.ex e, q⟩
theorem at_meaning (G : Glo mg) (Ci : CiF K mg C) (c_require_numbers : Cal P w K mg base 7 "require_numbers" ["field", "circuit", "numbers"] (spReqN C)) (c_meaning_in : Cal P w K mg base 1 "meaning_in" ["field", "circuit", "numbers"] (spMeanIn C))
    (F : FunAt K (RMeth K C "meaning") "meaning" "Circuit.meaning" s_C_meaning ["self", "field", "numbers"]) : AtF P w K mg base 8 (RMeth K C "meaning") ["self", "field", "numbers"] (spMean C fun f ns gs os => TupV (nis (means f ns gs))) := by
  refine AtF.mk' F sc_C_meaning (fun vs H Q E h => ?_) (fun f cdv A outer s H vs Q E hr h => ?_)
  · obtain ⟨c, a, f, gs, os, ns, rfl, _⟩ := h
    rfl
  · obtain ⟨c, a, f, gs, os, ns, rfl, hc, hn, k⟩ := h
    refine ⟨_, (pss_cons (ps_expr (pe_cal c_require_numbers (hr.mono (by decide)) (by rfl) (pa_cons (pv 1) (pa_cons (pv 0) (pa_cons (pv 2) pa_nil)))))
      (pss_one (ps_ret (pe_callTy call_tuple_of (by rfl) G.tuple (by decide +kernel) (pa_cons (pe_cal c_meaning_in (hr.mono (by decide)) (by rfl) (pa_cons (pv 1) (pa_cons (pv 0) (pa_cons (pv 2) pa_nil)))) pa_nil))))), ?_⟩
    refine q_drop (ev_cal (ea_cons (ev_var rfl) (ea_cons (ev_var rfl) (ea_cons (ev_var rfl) ea_nil))) (spv_reqN hc hn)) fun H1 e1 => ?_
    have hc1 := hc.ex e1
    have hn1 := hn.ex e1
    exact s_retU (eu_tupN (el_cal (ea_cons (ev_var rfl) (ea_cons (ev_var rfl) (ea_cons (ev_var rfl) ea_nil))) (spl_meanIn hn1.fld hc1.at_ hc1.g hn1.at_ hn1.len hn1.lt))) fun p H2 _ e2 hp => k _ H2 (e1.trans e2) ⟨p, rfl, hp⟩
theorem at_told (G : Glo mg) (Ci : CiF K mg C) (c_require_numbers : Cal P w K mg base 7 "require_numbers" ["field", "circuit", "numbers"] (spReqN C)) (c_meaning_in : Cal P w K mg base 1 "meaning_in" ["field", "circuit", "numbers"] (spMeanIn C))
    (F : FunAt K (RMeth K C "told") "told" "Circuit.told" s_C_told ["self", "field", "numbers"]) : AtF P w K mg base 8 (RMeth K C "told") ["self", "field", "numbers"] (spMean C fun f ns gs os => TupV (nis (toldOf f ns gs os))) := by
  refine AtF.mk' F sc_C_told (fun vs H Q E h => ?_) (fun f cdv A outer s H vs Q E hr h => ?_)
  · obtain ⟨c, a, f, gs, os, ns, rfl, _⟩ := h
    rfl
  · obtain ⟨c, a, f, gs, os, ns, rfl, hc, hn, k⟩ := h
    refine ⟨_, (pss_cons (ps_expr (pe_cal c_require_numbers (hr.mono (by decide)) (by rfl) (pa_cons (pv 1) (pa_cons (pv 0) (pa_cons (pv 2) pa_nil)))))
      (pss_cons (ps_set (i := 3) sc_C_told.nd rfl (Or.inr rfl) (pe_cal c_meaning_in (hr.mono (by decide)) (by rfl) (pa_cons (pv 1) (pa_cons (pv 0) (pa_cons (pv 2) pa_nil)))))
      (pss_one (ps_ret (pe_callTy call_tuple_of (by rfl) G.tuple (by decide +kernel) (pa_cons (pe_lc (own := [("gate", 4), ("houses", 5)]) rfl sc_C_told.nd (pi_tup (SlX.pe_sl (pv 0))) (blkOk_by (own := [("gate", 4), ("houses", 5)]) (N := N_C_told) (sc := defScope s_C_told) (by decide +kernel)) (fun _ _ _ _ _ => (pgTupK K 2 rfl rfl (pgs_cons (pg_name (i := 4) sc_C_told.nd rfl (Or.inl rfl) (Or.inr rfl)) (pgs_cons (pg_name (i := 5) sc_C_told.nd rfl (Or.inl rfl) (Or.inr rfl)) pgs_nil)) rfl)) (fun _ _ _ _ _ => pts_nil) (fun _ _ _ _ _ => (pe_ix (ixLK K rfl) (pv 3) (pv 4) (fun _ _ => rfl)))) pa_nil)))))), ?_⟩
    refine q_drop (ev_cal (ea_cons (ev_var rfl) (ea_cons (ev_var rfl) (ea_cons (ev_var rfl) ea_nil))) (spv_reqN hc hn)) fun H1 e1 => ?_
    have hc1 := hc.ex e1
    have hn1 := hn.ex e1
    refine q_asgL (el_cal (ea_cons (ev_var rfl) (ea_cons (ev_var rfl) (ea_cons (ev_var rfl) ea_nil))) (spl_meanIn hn1.fld hc1.at_ hc1.g hn1.at_ hn1.len hn1.lt)) fun l H2 _ e2 hl => ?_
    have hc2 := hc1.ex e2
    have hL := sq_of (K := K) hl
    obtain ⟨oa, ho, hev⟩ := ev_o Ci hc2.at_
    obtain ⟨vs, py, h1, h2, h3⟩ := outs_py (K := K) ho
    have hT := SqT.of (K := K) h1
    have l6 := hc2.o.le
    refine s_retU (eu_tupN (el_is (el_lcT2 (xs := vs) (fun _ => true) (fun i => ni ((means f ns gs).getD (os.getD i (0, [])).1 0)) (fun i => ni (os.getD i (0, [])).1) py (hev H2 (Ex.refl H2) _ _ (ev_var rfl)) hT h3 (by omega) (fun _ _ => rfl) (fun _ _ _ _ => et_yes) (fun i H3 e3 hi _ => ?m1)) ?m2)) fun p H3 _ e3 hp => k _ H3 ((e1.trans e2).trans e3) ⟨p, rfl, hp⟩
    case m1 =>
      have hio : i < os.length := by omega
      have ok := hc2.o.ok _ (List.mem_of_getElem? (at_getD (0, []) hio))
      exact ev_op (ev_var rfl) (ev_var rfl) (rv_ixL (ex_l e3 hL) (at_nis (by rw [means_len]; exact ok.g)))
    case m2 =>
      rw [h2]
      refine (given_of os (0, []) (fun _ => true) (fun o => ni ((means f ns gs).getD o.1 0))).trans ?_
      unfold nis toldOf
      rw [List.filter_eq_self.mpr (fun _ _ => rfl), List.map_map]
      rfl
/-- what stands right of == : another circuit, or None, a tuple, a text -/
def EqR (K : PySem.W.Frag) (C : Addr) (H : Hp) (y : V) : Prop := ∃ t, TyX K H y t ∧ PySem.W.kitOne K t (.ref C) = some false
def spEq (K : PySem.W.Frag) (C : Addr) : Sp := fun vs H Q _ => ∃ (a : Addr) (gs : List G) (os : List (Nat × List Nat)) (y : V), vs = [.ref a, y] ∧ Cir C H a gs os ∧
  ((∃ (b : Addr) (gs' : List G) (os' : List (Nat × List Nat)), y = .ref b ∧ Cir C H b gs' os' ∧ RetV (.bl (PyData.eqv (gsD gs) (gsD gs') && PyData.eqv (osD os) (osD os'))) H Q) ∨ ((∀ H1, Ex H H1 → EqR K C H1 y) ∧ RetV (.bl false) H Q))
theorem at_eq (G : Glo mg) (Ci : CiF K mg C) (F : FunAt K (ROwn K C "__eq__") "__eq__" "Circuit.__eq__" s_C_eq ["self", "other"]) : AtF P w K mg base 1 (ROwn K C "__eq__") ["self", "other"] (spEq K C) := by
  refine AtF.mk' F sc_C_eq (fun vs H Q E h => ?_) (fun f cdv A outer s H vs Q E hr h => ?_)
  · obtain ⟨a, gs, os, y, rfl, _⟩ := h
    rfl
  · obtain ⟨a, gs, os, y, rfl, hc, h⟩ := h
    refine ⟨_, (pss_cons (ps_if (pt_not (pt_val (pe_callB (callR_or (call_isiSl (.ref C)) call_isi) (by rfl) G.isinstance (by decide +kernel) (pa_cons (pv 1) (pa_cons (pe_glob (v := .ref _) (by rfl) Ci.mgC rfl) pa_nil))))) (pss_one (ps_ret pe_bl)) pss_nil)
      (pss_one (ps_ret (pe_and (pe_cmpR (op_eqD hr.units) (SlX.pe_sl (pv 0)) (SlX.pe_sl (pv 1)) (nomark _)) (pe_one (pe_cmpR (op_eqD hr.units) (SlX.pe_sl (pv 0)) (SlX.pe_sl (pv 1)) (nomark _))))))), ?_⟩
    rcases h with ⟨b, gs', os', rfl, hc', k⟩ | ⟨ht, k⟩
    · refine q_when (b := false) (et_not (et_B (b := true) fun H1 e1 Q q => ?m1)) (fun h => nomatch h) fun _ H1 e1 => ?_
      case m1 =>
        refine ⟨_, rfl, .inl ?_⟩
        obtain ⟨dx, ga, oa, hs, _, _⟩ := hc'.at_.ex e1
        exact ⟨b, C, dx, _, .ref C, true, rfl, rfl, fun w h => h, hs, Ci.sc, Ci.si, Ci.kc, q H1 (Ex.refl H1)⟩
      obtain ⟨ga, hg, hev⟩ := ev_g Ci (hc.ex e1).at_
      obtain ⟨ga', hg', hev'⟩ := ev_g Ci (hc'.ex e1).at_
      obtain ⟨oa, ho, heo⟩ := ev_o Ci (hc.ex e1).at_
      obtain ⟨oa', ho', heo'⟩ := ev_o Ci (hc'.ex e1).at_
      exact s_ret (ev_andV (ev_eqP (evp_dp (hev H1 (Ex.refl H1) _ _ (ev_var rfl)) (dp_gs hg)) (evp_dp (hev' H1 (Ex.refl H1) _ _ (ev_var rfl)) (dp_gs hg')) ((sh_gs gs).ok (by decide)) ((sh_gs gs').ok (by decide))) fun _ =>
        ev_eqP (evp_dp (heo H1 (Ex.refl H1) _ _ (ev_var rfl)) (dp_os ho)) (evp_dp (heo' H1 (Ex.refl H1) _ _ (ev_var rfl)) (dp_os ho')) ((sh_os os).ok (by decide)) ((sh_os os').ok (by decide))) fun H2 e2 => k H2 (e1.trans e2)
    · refine q_when (b := true) (et_not (et_B (b := false) fun H1 e1 Q q => ?m2)) (fun _ H1 e1 => s_ret ev_c fun H2 e2 => k H2 (e1.trans e2)) (fun h => nomatch h)
      case m2 =>
        refine ⟨_, rfl, .inr ?_⟩
        obtain ⟨t, hty, hk⟩ := ht H1 e1
        exact ⟨y, .ref C, t, .ref C, false, rfl, .own C, hty, hk, q H1 (Ex.refl H1)⟩
def spStr (C : Addr) : Sp := fun vs H Q _ => ∃ (a : Addr) (gs : List G) (os : List (Nat × List Nat)), vs = [.ref a] ∧ Cir C H a gs os ∧ RetV (.str (cStr gs.length (gs.countP G.isPro))) H Q
theorem len_app (x y : Str) : (x ++ y).length = x.length + y.length := by
  show (x ++ y).cps.size = _
  rw [Str.cps_append, Array.size_append]
  rfl
theorem at_str (G : Glo mg) (Ci : CiF K mg C) (c_many_of : Cal P w K mg base 1 "many_of" ["gates", "word"] spMany) (F : FunAt K (ROwn K C "__str__") "__str__" "Circuit.__str__" s_C_str ["self"]) : AtF P w K mg base 2 (ROwn K C "__str__") ["self"] (spStr C) := by
  refine AtF.mk' F sc_C_str (fun vs H Q E h => ?_) (fun f cdv A outer s H vs Q E hr h => ?_)
  · obtain ⟨a, gs, os, rfl, _⟩ := h
    rfl
  · obtain ⟨a, gs, os, rfl, hc, k⟩ := h
    refine ⟨_, (pss_one (ps_ret (pe_joined (.cons pe_str (.cons (pe_fmt (pe_callB call_len_seq (by rfl) G.len PySem.boot_len (pa_cons (SlX.pe_sl (pv 0)) pa_nil))) (.cons pe_str (.cons (pe_fmt (pe_cal c_many_of (hr.mono (by decide)) (by rfl) (pa_cons (SlX.pe_sl (pv 0)) (pa_cons (pe_gs G.cPRODUCT rfl) pa_nil)))) (.cons pe_str .nil)))))))), ?_⟩
    obtain ⟨ga, hg, hev⟩ := ev_g Ci hc.at_
    obtain ⟨vs, h1, h2, h3⟩ := hg.at_
    have hT := SqT.of (K := K) h1
    have l60 := hc.g.le
    have l12 := hc.g.pro
    have b1 := small_int (n := gs.length) (by omega)
    have b2 := small_int (n := gs.countP Ec.G.isPro) (by omega)
    have z := sizeLine_eq
    have c1 : ("circuit of " : Str).length = 11 := by decide +kernel
    have c2 : (" gates, " : Str).length = 8 := by decide +kernel
    have c3 : (" products" : Str).length = 9 := by decide +kernel
    refine ⟨_, rfl, by rw [len_app]; show 0 + _ ≤ _; omega, ?_⟩
    rw [Str.empty_append]
    unfold tJs
    unfold tFmt
    show tCB (rLenS K) (tCons (SlX.tSl K (tVar 0) "own_gates") tNil) (L2.start N_C_str [.ref a]) H _
    refine ev_lenT (hev H (Ex.refl H) _ _ (ev_var rfl)) hT H (Ex.refl H) _ fun H1 e1 => Or.inr ⟨_, rfl, log_small (by omega), _, rfl, by rw [len_app, h2]; omega, _, rfl, by rw [len_app, len_app, h2]; omega, ?_⟩
    show tCall spMany [] E0 (tCons (SlX.tSl K (tVar 0) "own_gates") (tCons (tC (.str "product")) tNil)) (L2.start N_C_str [.ref a]) H1 _
    refine ev_cal (ea_cons (hev H1 e1 _ _ (ev_var rfl)) (ea_cons ev_c ea_nil)) (spv_many (hg.ex e1) (by omega)) H1 (Ex.refl H1) _ fun H2 e2 => ?_
    rw [cnt_pro]
    refine Or.inr ⟨_, rfl, log_small (by omega), _, rfl, by rw [len_app, len_app, len_app, h2]; omega, _, rfl, by rw [len_app, len_app, len_app, len_app, h2]; omega, ?_⟩
    rw [h2]
    exact k H2 (e1.trans e2)
end
end Ec
set_option maxRecDepth 100000
set_option maxHeartbeats 4000000
/-! the law's defs: dice, rolls -/
namespace Ec
open PySem PySem.Spec PyProof.Rows L2 Evl SlX
section
variable {P : Program} {w : World} {K : PySem.W.Frag} {mg : Str → Option Value} {base : Heap}
abbrev s_law_dice : Stmt := top 43
abbrev N_law_dice : List Str := ["_law_script", "_law_spot", "_law_cell", "_law_left"]
theorem sc_law_dice : FnScope N_law_dice ["_law_script", "_law_spot"] (defScope s_law_dice) := ⟨rfl, rfl, rfl, by decide +kernel, rfl, by decide +kernel, by decide +kernel⟩
abbrev s_law_roll : Stmt := top 44
abbrev N_law_roll : List Str := ["_law_dice_here", "_law_most", "_law_found", "_law_one", "_law_two"]
theorem sc_law_roll : FnScope N_law_roll ["_law_dice_here", "_law_most"] (defScope s_law_roll) := ⟨rfl, rfl, rfl, by decide +kernel, rfl, by decide +kernel, by decide +kernel⟩
def A0dice (K : PySem.W.Frag) : Hp → List V → Prop := fun H vs => ∃ (a : Addr) (ns : List Int) (n : Nat), vs = [.ref a, ni n] ∧ SqL K H a (ns.map V.int)
def spDice (K : PySem.W.Frag) : Sp := fun vs H Q _ => A0dice K H vs ∧ ∀ d H', Ex H H' → Dice H' d → Q (.ref d) H'
theorem cal_law_dice (G : Glo mg) (F : FunX K mg "_law_dice" "_law_dice" "_law_dice" s_law_dice ["_law_script", "_law_spot"]) : Cal P w K mg base 1 "_law_dice" ["_law_script", "_law_spot"] (spDice K) := by
  refine Cal.conv (sp := fun vs H Q _ => A0dice K H vs ∧ ∀ d H', H d = none → Ex H H' → TriV H' d → Q (.ref d) H') ?_ fun f fd F => dice_mk F
  refine Cal.mk' F sc_law_dice (fun vs H Q E h => ?_) (fun f cdv A outer s H vs Q E hr h => ?_)
  · obtain ⟨⟨a, ns, n, rfl, _⟩, _⟩ := h
    rfl
  · obtain ⟨⟨a, ns, n, rfl, hs⟩, k⟩ := h
    refine ⟨_, (pss_cons (ps_set (i := 2) sc_law_dice.nd rfl (Or.inl rfl) (pe_ifExp (pt_cmpR op_lt (pv 1) (pe_callB call_len_seq (by rfl) G.len PySem.boot_len (pa_cons (pv 0) pa_nil)) (nomark _)) (pe_callTy call_int1 (by rfl) G.int (by decide +kernel) (pa_cons (pe_ix ix_list (pv 0) (pv 1) (fun _ _ => rfl)) pa_nil)) (pe_op op_add (pe_op op_mul pe_int (pv 1)) pe_int)))
      (pss_cons (ps_set (i := 3) sc_law_dice.nd rfl (Or.inl rfl) (pe_op op_mod (pe_callB (call_max2 rfl) (by rfl) G.max (by decide +kernel) (pa_cons pe_int (pa_cons (pe_op op_sub (pe_callB call_abs (by rfl) G.abs (by decide +kernel) (pa_cons (pv 2) pa_nil)) (pe_op op_pow pe_int pe_int)) pa_nil))) (pe_op op_mulW (pe_op op_pow pe_int pe_int) (pe_op op_pow pe_int pe_int))))
      (pss_one (ps_ret (pe_lst (pa_cons (pv 3) (pa_cons (pe_op op_add (pe_op op_add (pe_op op_add (pe_op op_mul (pe_op op_mod (pe_callB call_abs (by rfl) G.abs (by decide +kernel) (pa_cons (pv 2) pa_nil)) pe_int) pe_int) (pe_op op_mul pe_int (pv 1))) (pe_op op_mul pe_int (pe_callTy call_int1 (by rfl) G.int (by decide +kernel) (pa_cons (pe_cmpR op_lt (pv 2) pe_int (nomark _)) pa_nil)))) pe_int) (pa_cons pe_int pa_nil)))))))), ?_⟩
    refine q_asgP (R := fun v _ => ∃ i : Int, v = .int i) (evp_if (b := decide ((n : Int) < ((ns.map V.int).length : Int))) (et_test (ev_op (ev_var rfl) (ev_len (ev_var rfl) hs) rv_I0)) (fun hb => ?m1) (fun _ => evp_of (ev_op (ev_op ev_c (ev_var rfl) (rv_I (Or.inl ⟨by decide, by decide⟩))) ev_c rv_I0) fun _ _ => ⟨_, rfl⟩)) fun v H1 e1 hv => ?_
    case m1 =>
      have hn : n < (ns.map V.int).length := by have := of_decide_eq_true hb; omega
      have hx : (ns.map V.int)[n]? = some (.int (ns.getD n 0)) := by
        rw [List.length_map] at hn
        rw [List.getElem?_map, at_getD 0 hn]
        rfl
      exact evp_of (ev_intI (ev_op (ev_var rfl) (ev_var rfl) (rv_ixL hs (atI_nat hx)))) fun _ _ => ⟨_, rfl⟩
    obtain ⟨i, rfl⟩ := hv
    refine q_asg (ev_op (ev_max2 ev_c (ev_op (ev_abs (ev_var rfl)) (ev_op ev_c ev_c (rv_I ⟨by decide, by decide, by decide⟩)) rv_I0)) (ev_op (ev_op ev_c ev_c (rv_I ⟨by decide, by decide, by decide⟩)) (ev_op ev_c ev_c (rv_I ⟨by decide, by decide, by decide⟩)) (rv_I (by show _ < _; decide +kernel))) (rv_I (by show _ < _; decide +kernel))) fun H2 e2 => ?_
    refine s_retL (el_lst (ea_cons (ev_var rfl) (ea_cons (ev_op (ev_op (ev_op (ev_op (ev_op (ev_abs (ev_var rfl)) ev_c (rv_I (by show _ < _; decide))) ev_c (rv_I (Or.inr ⟨by decide, by decide⟩))) (ev_op ev_c (ev_var rfl) (rv_I (Or.inl ⟨by decide, by decide⟩))) rv_I0) (ev_op ev_c (ev_intB (ev_op (ev_var rfl) ev_c rv_I0)) (rv_I (Or.inl ⟨by decide, by decide⟩))) rv_I0) ev_c rv_I0) (ea_cons ev_c ea_nil))) (Nat.le_of_ble_eq_true rfl)) fun p H3 hp e3 hp3 => ?_
    exact k p H3 (fresh_back (e1.trans e2) hp) ((e1.trans e2).trans e3) ⟨_, _, _, hp3⟩
def A0roll : Hp → Addr → List V → Prop := fun _ _ ws => ∃ m : Nat, ws = [ni m] ∧ 1 ≤ m ∧ m < 1073741824
def Rroll : List V → V → Prop := fun ws v => ∃ m r : Nat, ws = [ni m] ∧ v = ni r ∧ r < m
def spRoll : Sp := fun vs H Q _ => ∃ (d : Addr) (ws : List V), vs = .ref d :: ws ∧ Dice H d ∧ A0roll H d ws ∧ ∀ v H', Ex H H' → Rroll ws v → Q v H'
theorem spp_roll {d : Addr} {m : Nat} {H : Hp} (hd : Dice H d) (h1 : 1 ≤ m) (h2 : m < 1073741824) : SpP spRoll [.ref d, ni m] H (VN fun r => r < m) := fun H1 e Q q E => ⟨d, [ni m], rfl, hd.ex e, ⟨m, rfl, h1, h2⟩, fun v H2 e2 hv => by
  obtain ⟨m', r, e, rfl, hr⟩ := hv
  have e : m = m' := by
    have := V.int.inj (List.cons.inj e).1
    omega
  exact q _ H2 e2 ⟨r, rfl, by omega⟩⟩
theorem mod_ni {x : Int} {m : Nat} (h : 1 ≤ m) : ∃ r : Nat, V.int (x % (m : Int)) = ni r ∧ r < m := by
  have h1 := Int.emod_nonneg x (show (m : Int) ≠ 0 by omega)
  have h2 := Int.emod_lt_of_pos x (show (0 : Int) < (m : Int) by omega)
  refine ⟨(x % (m : Int)).toNat, ?_, by omega⟩
  unfold ni
  congr 1
  omega
theorem cal_law_roll (G : Glo mg) (F : FunX K mg "_law_roll" "_law_roll" "_law_roll" s_law_roll ["_law_dice_here", "_law_most"]) : Cal P w K mg base 1 "_law_roll" ["_law_dice_here", "_law_most"] spRoll := by
  refine Cal.conv (sp := fun vs H Q _ => ∃ (d : Addr) (ws : List V), vs = .ref d :: ws ∧ TriV H d ∧ A0roll H d ws ∧ ∀ v H', Off d H H' → TriV H' d → Rroll ws v → Q v H') ?_ fun f fd F => dice_fn (fun H d vs h => by obtain ⟨m, rfl, _⟩ := h; rfl) (fun H H' d vs _ h => h) F
  refine Cal.mk' F sc_law_roll (fun vs H Q E h => ?_) (fun f cdv A outer s H vs Q E hr h => ?_)
  · obtain ⟨d, ws, rfl, _, ⟨m, rfl, _⟩, _⟩ := h
    rfl
  · obtain ⟨d, ws, rfl, ⟨x, b, c, hd⟩, ⟨m, rfl, hm1, hm2⟩, k⟩ := h
    refine ⟨_, (pss_cons (ps_if (pt_cmpR op_gt (pe_ix ix_list (pv 0) pe_int (fun _ _ => rfl)) pe_int (nomark _)) (pss_cons (ps_set (i := 2) sc_law_roll.nd rfl (Or.inl rfl) (pe_op op_mod (pe_callTy call_int1 (by rfl) G.int (by decide +kernel) (pa_cons (pe_ix ix_list (pv 0) pe_int (fun _ _ => rfl)) pa_nil)) (pv 1)))
      (pss_cons (ps_asg (pe_op op_fdiv (pe_ix ix_list (pv 0) pe_int (fun _ _ => rfl)) (pv 1)) (pg_sub (pv 0) pe_int set_list))
      (pss_one (ps_ret (pv 2))))) pss_nil)
      (pss_cons (ps_asg (pe_op op_add (pe_ix ix_list (pv 0) pe_int (fun _ _ => rfl)) pe_int) (pg_sub (pv 0) pe_int set_list))
      (pss_cons (ps_set (i := 3) sc_law_roll.nd rfl (Or.inl rfl) (pe_op op_mod (pe_callTy call_int1 (by rfl) G.int (by decide +kernel) (pa_cons (pe_op op_add (pe_ix ix_list (pv 0) pe_int (fun _ _ => rfl)) (pe_op op_mul pe_int (pe_ix ix_list (pv 0) pe_int (fun _ _ => rfl)))) pa_nil)) pe_int))
      (pss_cons (ps_set (i := 4) sc_law_roll.nd rfl (Or.inl rfl) (pe_op op_add (pe_op op_mul (pe_op op_mod (pe_callTy call_int1 (by rfl) G.int (by decide +kernel) (pa_cons (pe_op op_add (pe_op op_mul (pv 3) (pv 3)) (pe_op op_mul pe_int (pe_ix ix_list (pv 0) pe_int (fun _ _ => rfl)))) pa_nil)) pe_int) pe_int) (pv 3)))
      (pss_one (ps_ret (pe_op op_mod (pe_callTy call_int1 (by rfl) G.int (by decide +kernel) (pa_cons (pe_op op_fdiv (pv 4) pe_int) pa_nil)) (pv 1)))))))), ?_⟩
    have hm0 : (0 : Int) < (m : Int) := by omega
    have hL := sq_of (K := K) hd
    refine q_when (b := decide (x > 0)) (et_test (ev_op (ev_op (ev_var rfl) ev_c (rv_ixL hL rfl)) ev_c rv_I0)) (fun _ H1 e1 => ?_) (fun _ H1 e1 => ?_)
    · have hL := ex_l e1 hL
      refine q_asg (ev_op (ev_intI (ev_op (ev_var rfl) ev_c (rv_ixL hL rfl))) (ev_var rfl) (rv_I hm0)) fun H2 e2 => ?_
      have hL := ex_l e2 hL
      have hd2 := e2 _ _ (e1 _ _ hd)
      refine q_setL (j := 0) hd2 (ev_op (ev_op (ev_var rfl) ev_c (rv_ixL hL rfl)) (ev_var rfl) (rv_I ⟨hm0, by omega⟩)) (ev_var rfl) ev_c (by show (0 : Nat) < 3; decide) fun H3 e3 => ?_
      obtain ⟨r, er, hr⟩ := mod_ni (x := x) hm1
      refine s_ret (ev_is (ev_var rfl) er) fun H4 e4 => k _ H4 (((off_of ((e1.trans e2).trans e3)).trans off_upd).trans (off_of e4)) ⟨_, _, _, e4 _ _ upd_same⟩ ⟨m, r, rfl, rfl, hr⟩
    · have hL := ex_l e1 hL
      have hd1 := e1 _ _ hd
      refine q_setL (j := 2) hd1 (ev_op (ev_op (ev_var rfl) ev_c (rv_ixL hL rfl)) ev_c rv_I0) (ev_var rfl) ev_c (by show (2 : Nat) < 3; decide) fun H2 e2 => ?_
      have hd2 : (upd H2 d (.lst ([V.int x, .int b, .int c].set 2 (.int (c + 1))))) d = some (.lst [.int x, .int b, .int (c + 1)]) := upd_same
      have hL := sq_of (K := K) hd2
      refine q_asg (ev_op (ev_intI (ev_op (ev_op (ev_var rfl) ev_c (rv_ixL hL rfl)) (ev_op ev_c (ev_op (ev_var rfl) ev_c (rv_ixL hL rfl)) (rv_I (Or.inl ⟨by decide, by decide⟩))) rv_I0)) ev_c (rv_I (by show _ < _; decide))) fun H3 e3 => ?_
      have hL := ex_l e3 hL
      have o1 := Int.emod_nonneg (b + 86028157 * (c + 1)) (show (2305843009213693487 : Int) ≠ 0 by decide)
      have o2 := Int.emod_lt_of_pos (b + 86028157 * (c + 1)) (show (0 : Int) < 2305843009213693487 by decide)
      refine q_asg (ev_op (ev_op (ev_op (ev_intI (ev_op (ev_op (ev_var rfl) (ev_var rfl) (rv_I (Or.inl ⟨by omega, by omega⟩))) (ev_op ev_c (ev_op (ev_var rfl) ev_c (rv_ixL hL rfl)) (rv_I (Or.inl ⟨by decide, by decide⟩))) rv_I0)) ev_c (rv_I (by show _ < _; decide))) ev_c (rv_I (Or.inr ⟨by decide, by decide⟩))) (ev_var rfl) rv_I0) fun H4 e4 => ?_
      obtain ⟨r, er, hr⟩ := mod_ni (x := ((((b + 86028157 * (c + 1)) % 2305843009213693487 * ((b + 86028157 * (c + 1)) % 2305843009213693487) + 101 * (c + 1)) % 2305843009213693669 * 6700417 + (b + 86028157 * (c + 1)) % 2305843009213693487) / 65537)) hm1
      refine s_ret (ev_is (ev_op (ev_intI (ev_op (ev_var rfl) ev_c (rv_I ⟨by decide, by decide⟩))) (ev_var rfl) (rv_I hm0)) er) fun H5 e5 => k _ H5 (((off_of (e1.trans e2)).trans off_upd).trans (off_of ((e3.trans e4).trans e5))) ⟨_, _, _, ((e3.trans e4).trans e5) _ _ upd_same⟩ ⟨m, r, rfl, rfl, hr⟩
end
end Ec
set_option maxRecDepth 100000
set_option maxHeartbeats 4000000
/-! the law's defs: picks, mixes, houses -/
namespace Ec
open PySem PySem.Spec PyProof.Rows L2 Evl SlX
theorem erase_perm : ∀ (ns : List Nat) (r : Nat), r < ns.length → (ns.getD r 0 :: ns.eraseIdx r).Perm ns
  | [], r, h => absurd h (Nat.not_lt_zero r)
  | n :: ns, 0, _ => List.Perm.refl _
  | n :: ns, r + 1, h => (List.Perm.swap n (ns.getD r 0) (ns.eraseIdx r)).trans ((erase_perm ns r (Nat.lt_of_succ_lt_succ h)).cons n)
theorem nis_erase : ∀ (ns : List Nat) (r : Nat), (nis ns).eraseIdx r = nis (ns.eraseIdx r)
  | [], _ => rfl
  | n :: ns, 0 => rfl
  | n :: ns, r + 1 => congrArg (ni n :: ·) (nis_erase ns r)
theorem sq_nis {K : PySem.W.Frag} {H : Hp} {a : Addr} {ns : List Nat} (h : SqL K H a (nis ns)) : Dp K H (.ref a) (.list (ns.map iD)) := .lst h (dpAll_nis ns)
theorem sh_nisL (ns : List Nat) : Sh 1 (.list (ns.map iD)) := sh_lst fun d hd => by
  obtain ⟨m, _, rfl⟩ := List.mem_map.mp hd
  exact sh_i 0 m
theorem nat_back : ∀ xs : List Int, (∀ x ∈ xs, 0 ≤ x) → ∃ ms : List Nat, xs = ms.map Int.ofNat
  | [], _ => ⟨[], rfl⟩
  | x :: xs, h => by
    obtain ⟨ms, e⟩ := nat_back xs fun y hy => h y (List.mem_cons_of_mem _ hy)
    have hx := h x List.mem_cons_self
    refine ⟨x.toNat :: ms, ?_⟩
    rw [List.map_cons, ← e]
    congr 1
    show x = ((x.toNat : Nat) : Int)
    omega
section
variable {K : PySem.W.Frag} {σ : L2.St} {H : Hp} {ta tb te tl td : TE}
theorem elp_of {xs : List V} (h : EvL te σ H xs) : EvLP te σ H (fun vs _ => vs = xs) := fun H1 e Q q => h H1 e Q fun p H2 hp e2 h2 => q p xs H2 hp e2 h2 rfl
theorem EvLP.imp {R R' : List V → Hp → Prop} (h : EvLP te σ H R) (k : ∀ vs H2, Ex H H2 → R vs H2 → R' vs H2) : EvLP te σ H R' := fun H1 e Q q => h H1 e Q fun p vs H2 hp e2 h2 hr => q p vs H2 hp e2 h2 (k vs H2 (e.trans e2) hr)
theorem EvUP.imp {R R' : List V → Hp → Prop} (h : EvUP te σ H R) (k : ∀ vs H2, Ex H H2 → R vs H2 → R' vs H2) : EvUP te σ H R' := fun H1 e Q q => h H1 e Q fun p vs H2 hp e2 h2 hr => q p vs H2 hp e2 h2 (k vs H2 (e.trans e2) hr)
def IsN : Nat → V → Hp → Prop := fun n v _ => v = ni n
theorem isN_steady : Steady IsN := fun _ _ _ _ _ h => h
theorem told_nis (ns : List Nat) : Told IsN ns (nis ns) H := ⟨nis_len ns, fun j k v a b => by
  obtain ⟨n, hn, rfl⟩ := nis_at b
  rw [hn] at a
  cases a
  rfl⟩
/-- list(range(lo, hi)) -/
theorem el_rg2 {lo hi : Int} (ha : Ev ta σ H (.int lo)) (hb : Ev tb σ H (.int hi)) (ok : RgOk lo hi) : EvL (tLstRg (tRg2 ta tb)) σ H (rgV lo hi) := fun H1 e Q q =>
  ha H1 e _ fun H2 e2 => hb H2 (e.trans e2) _ fun H3 e3 => ⟨lo, hi, rfl, rfl, ok, fun p hp => q p _ (fresh_back (e2.trans e3) hp) ((e2.trans e3).trans (Ex.new hp)) upd_same⟩
theorem EvLP.dp {xs : List V} (h : EvLP te σ H (fun vs _ => vs = xs)) (ds : List PyData) (hd : ∀ H, DpAll K H xs ds := by exact fun _ => .nil) : EvP te σ H (DpV K (.list ds)) := fun H1 e Q q =>
  h H1 e _ fun p vs H2 hp e2 hp2 hr => q _ H2 e2 (.lst (sq_of (by rw [← hr]; exact hp2)) (hd H2))
/-- xs[lo:hi] of a new list -/
theorem elp_sl {tlo thi : TO} {lo hi : Option Int} {R : List V → Hp → Prop} (hR : ∀ vs H H', Ex H H' → R vs H → R vs H') (h : EvLP te σ H R) (h1 : EvO tlo σ H lo) (h2 : EvO thi σ H hi) : EvLP (L2.tSl (rSlL K) te tlo thi) σ H (fun vs H => ∃ xs, R xs H ∧ vs = cutV xs lo hi) := fun H1 e Q q =>
  h H1 e _ fun p vs H2 hp e2 hp2 hr => h1 H2 (e.trans e2) _ fun H3 e3 => h2 H3 ((e.trans e2).trans e3) _ fun H4 e4 =>
    ⟨p, vs, rfl, sq_of (e4 _ _ (e3 _ _ hp2)), fun l hl => q l _ _ (fresh_back ((e2.trans e3).trans e4) hl) (((e2.trans e3).trans e4).trans (Ex.new hl)) upd_same ⟨vs, hR _ _ _ ((e3.trans e4).trans (Ex.new hl)) hr, rfl⟩⟩
/-- sorted(xs) of a new list of numbers -/
theorem elp_sorted {R : List Nat → Prop} (h : EvLP te σ H (fun vs _ => ∃ ns, vs = nis ns ∧ ns.length < 64 ∧ R ns)) : EvLP (tCB (rSorted K) (tCons te tNil)) σ H (fun vs _ => ∃ ns ms, vs = nis ms ∧ ms.Perm ns ∧ ms.Pairwise (· ≤ ·) ∧ R ns) := fun H1 e Q q =>
  h H1 e _ fun p vs H2 hp e2 hp2 hr => by
    obtain ⟨ns, rfl, hl, hR⟩ := hr
    refine ⟨p, ns.map Int.ofNat, rfl, sq_of (by rw [hp2, List.map_map]; rfl), by rw [List.length_map]; exact hl, fun ns' l hperm hsort hln => ?_⟩
    obtain ⟨ms, rfl⟩ := nat_back ns' fun x hx => by
      obtain ⟨n, _, rfl⟩ := List.mem_map.mp (hperm.mem_iff.mp hx)
      exact Int.natCast_nonneg n
    have hp2 : ms.Perm ns := by
      have h := hperm.map Int.toNat
      rw [List.map_map, List.map_map] at h
      rw [show Int.toNat ∘ Int.ofNat = id from rfl, List.map_id, List.map_id] at h
      exact h
    have hs2 : ms.Pairwise (· ≤ ·) := (List.pairwise_map.mp hsort).imp fun h => Int.ofNat_le.mp h
    refine q l _ _ (fresh_back e2 hln) (e2.trans (Ex.new hln)) upd_same ⟨ns, ms, ?_, hp2, hs2, hR⟩
    rw [List.map_map]
    rfl
end
section
variable {P : Program} {w : World} {K : PySem.W.Frag} {mg : Str → Option Value} {base : Heap}
abbrev s_law_pick : Stmt := top 45
abbrev N_law_pick : List Str := ["_law_dice_here", "_law_items"]
theorem sc_law_pick : FnScope N_law_pick ["_law_dice_here", "_law_items"] (defScope s_law_pick) := ⟨rfl, rfl, rfl, by decide +kernel, rfl, by decide +kernel, by decide +kernel⟩
abbrev s_law_mixed : Stmt := top 46
abbrev N_law_mixed : List Str := ["_law_dice_here", "_law_items", "_law_left", "_law_found"]
theorem sc_law_mixed : FnScope N_law_mixed ["_law_dice_here", "_law_items"] (defScope s_law_mixed) := ⟨rfl, rfl, rfl, by decide +kernel, rfl, by decide +kernel, by decide +kernel⟩
abbrev s_law_dr_houses : Stmt := top 48
abbrev N_law_dr_houses : List Str := ["_law_dice_here", "_law_houses", "_law_many"]
theorem sc_law_dr_houses : FnScope N_law_dr_houses ["_law_dice_here", "_law_houses"] (defScope s_law_dr_houses) := ⟨rfl, rfl, rfl, by decide +kernel, rfl, by decide +kernel, by decide +kernel⟩
def spPick (K : PySem.W.Frag) : Sp := fun vs H Q _ => ∃ (d l : Addr) (xs : List V), vs = [.ref d, .ref l] ∧ Dice H d ∧ SqL K H l xs ∧ 1 ≤ xs.length ∧ xs.length < 1073741824 ∧ ∀ v H', Ex H H' → v ∈ xs → Q v H'
/-- one of a new list -/
theorem evp_pick {σ : L2.St} {H : Hp} {td tl : TE} {d : Addr} {R : List V → Hp → Prop} (hR : ∀ vs H H', Ex H H' → R vs H → R vs H') (hd : Ev td σ H (.ref d)) (hD : Dice H d) (hl : EvLP tl σ H R) (hn : ∀ vs H2, R vs H2 → 1 ≤ vs.length ∧ vs.length < 1073741824) :
    EvP (tCall (spPick K) [] E0 (tCons td (tCons tl tNil))) σ H (fun v H2 => ∃ vs, R vs H2 ∧ v ∈ vs) := fun H1 e Q q =>
  hd H1 e _ fun H2 e2 => hl H2 (e.trans e2) _ fun p vs H3 hp e3 hp3 hr => ⟨d, p, vs, rfl, hD.ex ((e.trans e2).trans e3), sq_of hp3, (hn _ _ hr).1, (hn _ _ hr).2, fun v H4 e4 hv => q v H4 ((e2.trans e3).trans e4) ⟨vs, hR _ _ _ e4 hr, hv⟩⟩
theorem evp_pickT {α : Type} {Pk : α → V → Hp → Prop} {ks : List α} {σ : L2.St} {H : Hp} {td tl : TE} {d : Addr} (s : Steady Pk) (hd : Ev td σ H (.ref d)) (hD : Dice H d) (hl : EvLP tl σ H (Told Pk ks)) (h1 : 1 ≤ ks.length) (h2 : ks.length < 1073741824) :
    EvP (tCall (spPick K) [] E0 (tCons td (tCons tl tNil))) σ H (fun v H2 => ∃ k ∈ ks, Pk k v H2) :=
  (evp_pick (Told.mono s) hd hD hl fun vs H2 h => by rw [h.1]; exact ⟨h1, h2⟩).imp fun v H2 _ h => by
    obtain ⟨vs, ht, hv⟩ := h
    exact ht.mem hv
theorem cal_law_pick (G : Glo mg) (c__law_roll : Cal P w K mg base 1 "_law_roll" ["_law_dice_here", "_law_most"] spRoll) (F : FunX K mg "_law_pick" "_law_pick" "_law_pick" s_law_pick ["_law_dice_here", "_law_items"]) : Cal P w K mg base 2 "_law_pick" ["_law_dice_here", "_law_items"] (spPick K) := by
  refine Cal.mk' F sc_law_pick (fun vs H Q E h => ?_) (fun f cdv A outer s H vs Q E hr h => ?_)
  · obtain ⟨d, l, xs, rfl, _⟩ := h
    rfl
  · obtain ⟨d, l, xs, rfl, hd, hl, h1, h2, k⟩ := h
    refine ⟨_, (pss_one (ps_ret (pe_ix ix_list (pv 1) (pe_cal c__law_roll (hr.mono (by decide)) (by rfl) (pa_cons (pv 0) (pa_cons (pe_callB call_len_seq (by rfl) G.len PySem.boot_len (pa_cons (pv 1) pa_nil)) pa_nil))) (fun _ _ => rfl)))), ?_⟩
    refine s_retP (evp_op (R := fun v _ => v ∈ xs) (R1 := fun v _ => v = .ref l) (R2' := VN fun r => r < xs.length) (evp_of (ev_var rfl) fun _ _ => rfl) (fun _ _ _ _ h => h) (evp_cal (ea_cons (ev_var rfl) (ea_cons (ev_len (ev_var rfl) hl) ea_nil)) (spp_roll hd h1 h2)) fun x y H2 e2 hx hy => ?_) k
    obtain ⟨r, rfl, hr2⟩ := hy
    rw [hx]
    exact ⟨xs.getD r .non, rv_ixL (ex_l e2 hl) (atI_nat (at_getD .non hr2)), fun _ _ => List.mem_of_getElem? (at_getD .non hr2)⟩
def spMixed (K : PySem.W.Frag) : Sp := fun vs H Q _ => ∃ (d l : Addr) (ns : List Nat), vs = [.ref d, .ref l] ∧ Dice H d ∧ SqL K H l (nis ns) ∧ ns.length ≤ 100 ∧ ∀ p ms H', H p = none → Ex H H' → H' p = some (.lst (nis ms)) → ms.Perm ns → Q (.ref p) H'
theorem cal_law_mixed (G : Glo mg) (c__law_roll : Cal P w K mg base 1 "_law_roll" ["_law_dice_here", "_law_most"] spRoll) (F : FunX K mg "_law_mixed" "_law_mixed" "_law_mixed" s_law_mixed ["_law_dice_here", "_law_items"]) : Cal P w K mg base 2 "_law_mixed" ["_law_dice_here", "_law_items"] (spMixed K) := by
  refine Cal.mk' F sc_law_mixed (fun vs H Q E h => ?_) (fun f cdv A outer s H vs Q E hr h => ?_)
  · obtain ⟨d, l, ns, rfl, _⟩ := h
    rfl
  · obtain ⟨d, l, ns, rfl, hd, hl, h100, k⟩ := h
    refine ⟨_, (pss_cons (ps_par (i := 2) (j := 3) (by rfl) sc_law_mixed.nd rfl rfl (by decide) rfl rfl (pa_cons (pe_callTy call_list_of (by rfl) G.list (by decide +kernel) (pa_cons (pv 1) pa_nil)) (pa_cons (pe_lst pa_nil) pa_nil)) (by rfl))
      (pss_cons (ps_while PassesOwn.never (pt_cmpR (op_neD hr.units) (pv 2) (pe_lst pa_nil) (nomark _)) (pss_one (ps_expr (pe_bm PySem.F.plainAttrs_list PySem.F.slot_list_append PySem.F.type_list_append mt_append (pv 3) (pa_cons (pe_bm PySem.F.plainAttrs_list PySem.F.slot_list_pop PySem.F.type_list_pop mt_popAt (pv 2) (pa_cons (pe_cal c__law_roll (hr.mono (by decide)) (by rfl) (pa_cons (pv 0) (pa_cons (pe_callB call_len_seq (by rfl) G.len PySem.boot_len (pa_cons (pv 2) pa_nil)) pa_nil))) pa_nil)) pa_nil)))))
      (pss_one (ps_ret (pv 3))))), ?_⟩
    refine q_parLL (K := K) (el_list (ev_var rfl) hl) (el_lst ea_nil (by decide)) fun a b H1 ha hb hne e1 ha1 hb1 => ?_
    refine q_while (fun m σ' H' => ∃ rest fnd : List Nat, σ' = [some (.ref d), some (.ref l), some (.ref a), some (.ref b)] ∧ Ex H H' ∧ H' a = some (.lst (nis rest)) ∧ H' b = some (.lst (nis fnd)) ∧ (fnd ++ rest).Perm ns ∧ m = rest.length) ns.length ⟨ns, [], rfl, e1, ha1, hb1, List.Perm.refl _, rfl⟩ fun m σ' H' h => ?_
    obtain ⟨rest, fnd, rfl, e, ha', hb', hp, rfl⟩ := h
    have hlen : fnd.length + rest.length = ns.length := by rw [← hp.length_eq, List.length_append]
    refine ⟨!PyData.eqv (.list (rest.map iD)) (.list []), et_test (ev_neP (evp_dp (ev_var rfl) (sq_nis (sq_of ha'))) ((elp_of (el_lst ea_nil (by decide))).dp []) ((sh_nisL rest).ok (by decide)) ((sh_nisL []).ok (by decide))), fun hb2 H2 e2 => ?_, fun hb2 H2 e2 => ?_⟩
    · have hne2 : rest ≠ [] := fun z => by
        rw [z] at hb2
        exact absurd hb2 (by decide)
      have hpos : 1 ≤ rest.length := List.length_pos_iff.mpr hne2
      have ha2 := e2 _ _ ha'
      have hb2 := e2 _ _ hb'
      refine ⟨fun σ2 H3 => ∃ rest' fnd' : List Nat, σ2 = [some (.ref d), some (.ref l), some (.ref a), some (.ref b)] ∧ Ex H H3 ∧ H3 a = some (.lst (nis rest')) ∧ H3 b = some (.lst (nis fnd')) ∧ (fnd' ++ rest').Perm ns ∧ rest'.length < rest.length, fun σ2 H3 ⟨r2, f2, x1, x2, x3, x4, x5, x6⟩ => ⟨r2.length, x6, r2, f2, x1, x2, x3, x4, x5, rfl⟩, ?_⟩
      refine ⟨_, rfl, Or.inl ⟨rfl, _, sq_of hb2⟩, ⟨_, rfl, Or.inl ⟨rfl, _, sq_of ha2⟩, ?_⟩⟩
      refine evp_cal (ea_cons (ev_var rfl) (ea_cons (ev_is (ev_len (ev_var rfl) (sq_of ha2)) (by rw [nis_len]; rfl : _ = ni rest.length)) ea_nil)) (spp_roll (hd.ex (e.trans e2)) hpos (by omega)) H2 (Ex.refl H2) _ fun v H3 e3 hv => ?_
      obtain ⟨r, rfl, hr2⟩ := hv
      have ha3 := e3 _ _ ha2
      have hb3 := e3 _ _ hb2
      have hix := ixN_seq (ixN_nat (n := (nis rest).length) (j := r) (by rw [nis_len]; exact hr2))
      refine ⟨a, _, (r : Int), r, ni (rest.getD r 0), rfl, rfl, ha3, by omega, by omega, hix.1, ?_, b, _, _, rfl, rfl, (by rw [upd_ne (Ne.symm hne)]; exact hb3), sz_lt (by rw [nis_len]; omega), ?_⟩
      · unfold nis
        rw [List.getElem?_map, at_getD 0 hr2]
        rfl
      · refine ⟨rest.eraseIdx r, fnd ++ [rest.getD r 0], rfl, Ex.mut (Ex.mut ((e.trans e2).trans e3) ha) hb, ?_, ?_, ?_, ?_⟩
        · rw [upd_ne hne, upd_same, nis_erase]
        · rw [upd_same, nis_snoc]
        · refine List.Perm.trans ?_ hp
          rw [List.append_assoc]
          exact (erase_perm rest r hr2).append_left fnd
        · rw [List.length_eraseIdx_of_lt hr2]
          omega
    · have hz : rest = [] := by
        cases rest with
        | nil => rfl
        | cons x xs => exact absurd hb2 (by show ¬ (!false) = false; decide)
      rw [hz, List.append_nil] at hp
      exact s_ret (ev_var rfl) fun H3 e3 => k b fnd H3 hb ((e.trans e2).trans e3) (e3 _ _ (e2 _ _ hb')) hp
end
end Ec
set_option maxRecDepth 100000
set_option maxHeartbeats 4000000
/-! the law's defs: houses, halls -/
namespace Ec
open PySem PySem.Spec PyProof.Rows L2 Evl SlX
section
variable {P : Program} {w : World} {K : PySem.W.Frag} {mg : Str → Option Value} {base : Heap}
theorem elp_mixed {σ : L2.St} {H : Hp} {td tl : TE} {d : Addr} {ns : List Nat} (hd : Ev td σ H (.ref d)) (hD : Dice H d) (hl : EvL tl σ H (nis ns)) (h100 : ns.length ≤ 100) :
    EvLP (tCall (spMixed K) [] E0 (tCons td (tCons tl tNil))) σ H (fun vs _ => ∃ ms, vs = nis ms ∧ ms.Perm ns) := fun H1 e Q q =>
  hd H1 e _ fun H2 e2 => hl H2 (e.trans e2) _ fun p H3 hp e3 hp3 => ⟨d, p, ns, rfl, hD.ex ((e.trans e2).trans e3), sq_of hp3, h100, fun p2 ms H4 hp2 e4 hp4 hm => q p2 _ H4 (fresh_back (e2.trans e3) hp2) ((e2.trans e3).trans e4) hp4 ⟨ms, rfl, hm⟩⟩
def oneTo (h : Nat) : List Nat := (List.range h).map fun i => 1 + i
theorem rg_one (h : Nat) : rgV 1 ((h : Int) + 1) = nis (oneTo h) := by
  unfold rgV nis oneTo
  rw [show ((h : Int) + 1 - 1).toNat = h by omega, List.map_map]
  rfl
theorem oneTo_mem {h n : Nat} (hn : n ∈ oneTo h) : 1 ≤ n ∧ n ≤ h := by
  obtain ⟨i, hi, rfl⟩ := List.mem_map.mp hn
  have := List.mem_range.mp hi
  omega
theorem oneTo_len (h : Nat) : (oneTo h).length = h := by
  unfold oneTo
  rw [List.length_map, List.length_range]
theorem oneTo_nodup (h : Nat) : (oneTo h).Nodup := List.pairwise_map.mpr ((List.nodup_range (n := h)).imp fun hab z => hab (by omega))
theorem cut_take (ns : List Nat) (k : Nat) (h : k ≤ ns.length) : cutV (nis ns) none (some (k : Int)) = nis (ns.take k) := by
  unfold cutV
  rw [HT.sIx_nat, HT.sIx_none, nis_len, List.drop_zero, Nat.sub_zero, Nat.min_eq_left h]
  unfold nis
  rw [List.map_take]
def HsV : V → Hp → Prop := fun v H => ∃ hs, TupV (nis hs) v H ∧ OkH hs
theorem okH_of {h m : Nat} {ms hs : List Nat} (hm : ms.Perm (oneTo h)) (h9 : h ≤ 9) (m1 : 1 ≤ m) (mh : m ≤ h) (hp : hs.Perm (ms.take m)) (hs1 : hs.Pairwise (· ≤ ·)) : OkH hs := by
  have hl : ms.length = h := by rw [hm.length_eq, oneTo_len]
  have hl2 : hs.length = m := by rw [hp.length_eq, List.length_take]; omega
  have nd : hs.Nodup := hp.symm.nodup (((hm.symm.nodup (oneTo_nodup h))).sublist (List.take_sublist m ms))
  refine ⟨fun z => by rw [z] at hl2; simp at hl2; omega, by omega, fun x hx => ?_, ?_⟩
  · have := oneTo_mem (hm.mem_iff.mp ((List.take_sublist m ms).subset (hp.mem_iff.mp hx)))
    omega
  · exact (hs1.and nd).imp fun h => by omega
def spDrH : Sp := fun vs H Q _ => ∃ (d : Addr) (h : Nat), vs = [.ref d, ni h] ∧ Dice H d ∧ 1 ≤ h ∧ h ≤ 9 ∧ RetP HsV H Q
theorem spp_drH {d : Addr} {h : Nat} {H : Hp} (hd : Dice H d) (h1 : 1 ≤ h) (h9 : h ≤ 9) : SpP spDrH [.ref d, ni h] H HsV := fun H1 e Q q E => ⟨d, h, rfl, hd.ex e, h1, h9, q⟩
theorem cal_law_dr_houses (G : Glo mg) (c__law_roll : Cal P w K mg base 1 "_law_roll" ["_law_dice_here", "_law_most"] spRoll) (c__law_mixed : Cal P w K mg base 2 "_law_mixed" ["_law_dice_here", "_law_items"] (spMixed K)) (F : FunX K mg "_law_dr_houses" "_law_dr_houses" "_law_dr_houses" s_law_dr_houses ["_law_dice_here", "_law_houses"]) :
    Cal P w K mg base 3 "_law_dr_houses" ["_law_dice_here", "_law_houses"] spDrH := by
  refine Cal.mk' F sc_law_dr_houses (fun vs H Q E h => ?_) (fun f cdv A outer s H vs Q E hr h => ?_)
  · obtain ⟨d, n, rfl, _⟩ := h
    rfl
  · obtain ⟨d, n, rfl, hd, h1, h9, k⟩ := h
    refine ⟨_, (pss_cons (ps_set (i := 2) sc_law_dr_houses.nd rfl (Or.inl rfl) (pe_op op_add pe_int (pe_cal c__law_roll (hr.mono (by decide)) (by rfl) (pa_cons (pv 0) (pa_cons (pv 1) pa_nil)))))
      (pss_one (ps_ret (pe_callTy call_tuple_of (by rfl) G.tuple (by decide +kernel) (pa_cons (pe_callB cr_sorted (by rfl) G.sorted (by decide +kernel) (pa_cons (pe_slice sl_list (pe_cal c__law_mixed (hr.mono (by decide)) (by rfl) (pa_cons (pv 0) (pa_cons (pe_listRg rfl (by rfl) G.list (prg_2 (by rfl) G.range pe_int (pe_op op_add (pv 1) pe_int))) pa_nil))) po_none (po_some (pv 2))) pa_nil)) pa_nil))))), ?_⟩
    refine q_asgP (R := VN fun m => 1 ≤ m ∧ m ≤ n) (evp_addN (evp_n (n := 1) (p := fun x => x = 1) ev_c rfl) (evp_cal (ea_cons (ev_var rfl) (ea_cons (ev_var rfl) ea_nil)) (spp_roll hd h1 (by omega))) fun a b ha hb => by omega) fun v H1 e1 hv => ?_
    obtain ⟨m, rfl, m1, m2⟩ := hv
    have hd1 := hd.ex e1
    refine s_retUP (eu_tupP (R := fun vs _ => ∃ hs, vs = nis hs ∧ OkH hs) (fun _ _ _ _ h => h) ((elp_sorted (R := fun ns => ∃ ms : List Nat, ns = ms.take m ∧ ms.Perm (oneTo n)) ((elp_sl (R := fun vs _ => ∃ ms, vs = nis ms ∧ ms.Perm (oneTo n)) (fun _ _ _ _ h => h)
      (elp_mixed (ev_var rfl) hd1 (el_is (el_rg2 ev_c (ev_op (ev_var rfl) ev_c rv_I0) (.of_le (by omega) (by omega) (by omega) (by omega))) (rg_one n)) (by rw [oneTo_len]; omega)) eo_none (eo_some (ev_var rfl))).imp fun vs H2 _ h => ?m1)).imp fun vs H2 _ h => ?m2)) fun p vs H2 hp e2 hp2 hv => ?m3
    case m1 =>
      obtain ⟨xs, ⟨ms, rfl, hm⟩, rfl⟩ := h
      have hl : ms.length = n := by rw [hm.length_eq, oneTo_len]
      exact ⟨ms.take m, cut_take ms m (by omega), by rw [List.length_take]; omega, ms, rfl, hm⟩
    case m2 =>
      obtain ⟨ns, hs, rfl, hp, hs1, ms, rfl, hm⟩ := h
      exact ⟨hs, rfl, okH_of hm h9 m1 m2 hp hs1⟩
    case m3 =>
      obtain ⟨hs, rfl, ok⟩ := hv
      exact k _ H2 (e1.trans e2) ⟨hs, ⟨p, rfl, hp2⟩, ok⟩
abbrev s_law_dr_hall : Stmt := top 47
abbrev N_law_dr_hall : List Str := ["_law_dice_here", "_law_kind", "_law_houses", "_law_most", "_law_one"]
theorem sc_law_dr_hall : FnScope N_law_dr_hall ["_law_dice_here", "_law_kind"] (defScope s_law_dr_hall) := ⟨rfl, rfl, rfl, by decide +kernel, rfl, by decide +kernel, by decide +kernel⟩
theorem q_ifM {D : Ends} {σ : L2.St} {H : Hp} {t : TT} {tu tw tz : TS} (Mid : L2.St → Hp → Prop) {b : Bool} (h : EvT t σ H b) (ht : ∀ σ' H', Mid σ' H' → tz D σ' H') (h1 : b = true → ∀ H1, Ex H H1 → ∀ nx, (∀ σ' H', Mid σ' H' → nx σ' H') → tu { D with nx := nx } σ H1)
    (h2 : b = false → ∀ H1, Ex H H1 → ∀ nx, (∀ σ' H', Mid σ' H' → nx σ' H') → tw { D with nx := nx } σ H1) : tSeq (tIfS t tu tw) tz D σ H := q_if h (fun hb H1 e => h1 hb H1 e _ ht) (fun hb H1 e => h2 hb H1 e _ ht)
theorem fields_ok (p : Nat) (h : p ∈ [7, 11, 13, 101, 997]) : IsF p := by
  rcases List.mem_cons.mp h with rfl | h
  · exact isF_of (by decide)
  rcases List.mem_cons.mp h with rfl | h
  · exact isF_of (by decide)
  rcases List.mem_cons.mp h with rfl | h
  · exact isF_of (by decide)
  rcases List.mem_cons.mp h with rfl | h
  · exact isF_of (by decide)
  rcases List.mem_cons.mp h with rfl | h
  · exact isF_of (by decide)
  cases h
/-- a field, a number of houses -/
def HallV : V → Hp → Prop := fun v H => ∃ p h m : Nat, TupV [ni p, ni h, ni m] v H ∧ IsF p ∧ 1 ≤ h ∧ h ≤ 9
def spHall : Sp := fun vs H Q _ => ∃ (d : Addr) (z : Str), vs = [.ref d, .str z] ∧ Dice H d ∧ RetP HallV H Q
theorem spp_hall {d : Addr} {z : Str} {H : Hp} (hd : Dice H d) : SpP spHall [.ref d, .str z] H HallV := fun H1 e Q q E => ⟨d, z, rfl, hd.ex e, q⟩
def PairP : Nat × Nat → V → Hp → Prop := fun k v H => TupV [ni k.1, ni k.2] v H
theorem pairP_steady : Steady PairP := tupV_steady fun k : Nat × Nat => [ni k.1, ni k.2]
theorem pair_ev {σ : L2.St} {H : Hp} (a b : Nat) : EvP (tTup (tCons (tC (ni a)) (tCons (tC (ni b)) tNil))) σ H (PairP (a, b)) := evp_U (eu_tup (ea_cons ev_c (ea_cons ev_c ea_nil)) (Nat.le_of_ble_eq_true rfl))
theorem cal_law_dr_hall (G : Glo mg) (c__law_pick : Cal P w K mg base 2 "_law_pick" ["_law_dice_here", "_law_items"] (spPick K)) (F : FunX K mg "_law_dr_hall" "_law_dr_hall" "_law_dr_hall" s_law_dr_hall ["_law_dice_here", "_law_kind"]) :
    Cal P w K mg base 3 "_law_dr_hall" ["_law_dice_here", "_law_kind"] spHall := by
  refine Cal.mk' F sc_law_dr_hall (fun vs H Q E h => ?_) (fun f cdv A outer s H vs Q E hr h => ?_)
  · obtain ⟨d, z, rfl, _⟩ := h
    rfl
  · obtain ⟨d, z, rfl, hd, k⟩ := h
    refine ⟨_, (pss_cons (ps_if (pt_cmpR op_eq (pv 1) pe_str (nomark _)) (pss_one (ps_asg (pe_cal c__law_pick (hr.mono (by decide)) (by rfl) (pa_cons (pv 0) (pa_cons (pe_lst (pa_cons (pe_tup (pa_cons pe_int (pa_cons pe_int pa_nil))) (pa_cons (pe_tup (pa_cons pe_int (pa_cons pe_int pa_nil))) (pa_cons (pe_tup (pa_cons pe_int (pa_cons pe_int pa_nil))) (pa_cons (pe_tup (pa_cons pe_int (pa_cons pe_int pa_nil))) (pa_cons (pe_tup (pa_cons pe_int (pa_cons pe_int pa_nil))) (pa_cons (pe_tup (pa_cons pe_int (pa_cons pe_int pa_nil))) pa_nil))))))) pa_nil))) (pgTupK K 2 rfl rfl (pgs_cons (pg_name (i := 2) sc_law_dr_hall.nd rfl (Or.inr rfl) (Or.inl rfl)) (pgs_cons (pg_name (i := 3) sc_law_dr_hall.nd rfl (Or.inl rfl) (Or.inr rfl)) pgs_nil)) rfl))) (pss_one (ps_asg (pe_cal c__law_pick (hr.mono (by decide)) (by rfl) (pa_cons (pv 0) (pa_cons (pe_lst (pa_cons (pe_tup (pa_cons pe_int (pa_cons pe_int pa_nil))) (pa_cons (pe_tup (pa_cons pe_int (pa_cons pe_int pa_nil))) (pa_cons (pe_tup (pa_cons pe_int (pa_cons pe_int pa_nil))) (pa_cons (pe_tup (pa_cons pe_int (pa_cons pe_int pa_nil))) (pa_cons (pe_tup (pa_cons pe_int (pa_cons pe_int pa_nil))) pa_nil)))))) pa_nil))) (pgTupK K 2 rfl rfl (pgs_cons (pg_name (i := 2) sc_law_dr_hall.nd rfl (Or.inr rfl) (Or.inl rfl)) (pgs_cons (pg_name (i := 3) sc_law_dr_hall.nd rfl (Or.inl rfl) (Or.inr rfl)) pgs_nil)) rfl))))
      (pss_one (ps_ret (pe_tup (pa_cons (pe_cal c__law_pick (hr.mono (by decide)) (by rfl) (pa_cons (pv 0) (pa_cons (pe_lc (own := [("_law_one", 4)]) rfl sc_law_dr_hall.nd (pi_list (pe_lst (pa_cons pe_int (pa_cons pe_int (pa_cons pe_int (pa_cons pe_int (pa_cons pe_int pa_nil))))))) (blkOk_by (own := [("_law_one", 4)]) (N := N_law_dr_hall) (sc := defScope s_law_dr_hall) (by decide +kernel)) (fun _ _ _ _ _ => (pg_name (i := 4) sc_law_dr_hall.nd rfl (Or.inl rfl) (Or.inr rfl))) (fun _ _ _ _ _ => (pts_one (pt_cmpR op_gt (pv 4) (pv 2) (nomark _)))) (fun _ _ _ _ _ => (pv 4))) pa_nil))) (pa_cons (pv 2) (pa_cons (pv 3) pa_nil))))))), ?_⟩
    refine q_ifM (fun σ' H' => ∃ kk : Nat × Nat, σ' = [some (.ref d), some (.str z), some (ni kk.1), some (ni kk.2), none] ∧ Ex H H' ∧ (3 ≤ kk.1 ∧ kk.1 ≤ 7)) (b := decide (V.str z = V.str "look")) (et_test (ev_op (ev_var rfl) ev_c (rv_eq rfl))) (fun σ' H' h => ?m0) (fun _ H1 e1 nx hnx => ?m1) (fun _ H1 e1 nx hnx => ?m2)
    case m1 =>
      refine evp_pickT (ks := [(3, 1), (3, 1), (4, 1), (5, 1), (5, 2), (6, 2)]) pairP_steady (ev_var rfl) (hd.ex e1) (el_lstT pairP_steady (eat_cons pairP_steady (pair_ev 3 1) (eat_cons pairP_steady (pair_ev 3 1) (eat_cons pairP_steady (pair_ev 4 1) (eat_cons pairP_steady (pair_ev 5 1) (eat_cons pairP_steady (pair_ev 5 2) (eat_cons pairP_steady (pair_ev 6 2) eat_nil)))))) (by decide)) (by decide) (by decide) H1 (Ex.refl H1) _ fun v H2 e2 hv => ?_
      obtain ⟨kk, hk, p, rfl, hp⟩ := hv
      refine ⟨p, _, rfl, st_of hp, rfl, _, _, rfl, _, _, rfl, rfl, hnx _ _ ⟨kk, rfl, e1.trans e2, ?_⟩⟩
      clear hp
      revert kk
      decide
    case m2 =>
      refine evp_pickT (ks := [(5, 1), (5, 1), (5, 1), (6, 1), (7, 1)]) pairP_steady (ev_var rfl) (hd.ex e1) (el_lstT pairP_steady (eat_cons pairP_steady (pair_ev 5 1) (eat_cons pairP_steady (pair_ev 5 1) (eat_cons pairP_steady (pair_ev 5 1) (eat_cons pairP_steady (pair_ev 6 1) (eat_cons pairP_steady (pair_ev 7 1) eat_nil))))) (by decide)) (by decide) (by decide) H1 (Ex.refl H1) _ fun v H2 e2 hv => ?_
      obtain ⟨kk, hk, p, rfl, hp⟩ := hv
      refine ⟨p, _, rfl, st_of hp, rfl, _, _, rfl, _, _, rfl, rfl, hnx _ _ ⟨kk, rfl, e1.trans e2, ?_⟩⟩
      clear hp
      revert kk
      decide
    case m0 =>
      obtain ⟨⟨h, m⟩, rfl, e, h3, h7⟩ := h
      have hls : EvL (tLst (tCons (tC (ni 7)) (tCons (tC (ni 11)) (tCons (tC (ni 13)) (tCons (tC (ni 101)) (tCons (tC (ni 997)) tNil)))))) [some (.ref d), some (.str z), some (ni h), some (ni m), none] H' (nis [7, 11, 13, 101, 997]) := el_lst (ea_cons ev_c (ea_cons ev_c (ea_cons ev_c (ea_cons ev_c (ea_cons ev_c ea_nil))))) (by decide)
      have hlc := el_lcNL (K := K) (te := tVar 4) (j := 4) (vs := [4]) (fun i => decide (([7, 11, 13, 101, 997].getD i 0 : Nat) > h)) (fun i => ni ([7, 11, 13, 101, 997].getD i 0)) hls (by decide) (fun _ => rfl) (t := tTest (tOp (rI0 fun i j => .bl (decide (i > j))) (tVar 4) (tVar 2))) (fun i x H2 e2 hx => ?a1) (fun i x H2 e2 hx _ => ?a2)
      case a1 =>
        obtain ⟨n, hn, rfl⟩ := nis_at hx
        refine et_is (et_test (ev_op (ev_var rfl) (ev_var rfl) rv_I0)) ?_
        rw [getD_of hn]
        exact decide_eq_decide.mpr (by constructor <;> (intro q; omega))
      case a2 =>
        obtain ⟨n, hn, rfl⟩ := nis_at hx
        rw [getD_of hn]
        exact ev_var rfl
      have hfil : given (nis [7, 11, 13, 101, 997]).length (fun i => decide (([7, 11, 13, 101, 997].getD i 0 : Nat) > h)) (fun i => ni ([7, 11, 13, 101, 997].getD i 0)) = nis ([7, 11, 13, 101, 997].filter fun p => decide (p > h)) := given_of [7, 11, 13, 101, 997] 0 (fun p => decide (p > h)) ni
      have hlen : 1 ≤ ([7, 11, 13, 101, 997].filter fun p => decide (p > h)).length := List.length_pos_iff.mpr fun z => by
        have hm : 997 ∈ ([7, 11, 13, 101, 997].filter fun p => decide (p > h)) := List.mem_filter.mpr ⟨by decide, decide_eq_true (by omega)⟩
        rw [z] at hm
        cases hm
      have hle := List.length_filter_le (fun p => decide (p > h)) [7, 11, 13, 101, 997]
      refine (evp_pickT (ks := [7, 11, 13, 101, 997].filter fun p => decide (p > h)) isN_steady (ev_var rfl) (hd.ex e) ((elp_of (el_is hlc hfil)).imp fun vs H2 _ hv => by rw [hv]; exact told_nis _) hlen (Nat.lt_of_le_of_lt hle (by decide))) H' (Ex.refl H') _ fun v H2 e2 hv => ?_
      obtain ⟨p, hp, rfl⟩ := hv
      refine ⟨_, rfl, _, rfl, sz_of (Nat.le_of_ble_eq_true rfl), fun q hq => k _ _ ((e.trans e2).trans (Ex.new hq)) ⟨p, h, m, ⟨q, rfl, upd_same⟩, ?_, by omega, by omega⟩⟩
      exact fields_ok p (List.mem_filter.mp hp).1
end
end Ec
set_option maxRecDepth 100000
set_option maxHeartbeats 4000000
/-! the law's defs: gates drawn -/
namespace Ec
open PySem PySem.Spec PyProof.Rows L2 Evl SlX
section
variable {K : PySem.W.Frag} {σ : L2.St} {H : Hp} {ta tb te tl td : TE} {D : Ends} {tu tz : TS}
theorem el_cat {xs ys : List V} (ha : EvL ta σ H xs) (hb : EvL tb σ H ys) (hz : xs.length + ys.length ≤ 100000) : EvL (tOp rCat ta tb) σ H (xs ++ ys) := fun H1 e Q q =>
  ha H1 e _ fun p H2 hp e2 h2 => hb H2 (e.trans e2) _ fun p2 H3 hp2 e3 h3 => ⟨p, p2, xs, ys, rfl, rfl, e3 _ _ h2, h3, sz_of hz, fun l hl => q l _ (fresh_back (e2.trans e3) hl) ((e2.trans e3).trans (Ex.new hl)) upd_same⟩
theorem el_rep {xs : List V} {k : Nat} (ha : EvL ta σ H xs) (hb : Ev tb σ H (ni k)) (hk : k ≤ 100000) (hz : xs.length * k ≤ 100000) : EvL (tOp rRep ta tb) σ H (List.replicate k xs).flatten := fun H1 e Q q =>
  ha H1 e _ fun p H2 hp e2 h2 => hb H2 (e.trans e2) _ fun H3 e3 => ⟨p, (k : Int), xs, rfl, rfl, e3 _ _ h2, by omega, by omega, sz_of hz, fun l hl => q l _ (fresh_back (e2.trans e3) hl) ((e2.trans e3).trans (Ex.new hl)) upd_same⟩
theorem q_forRP {p : Nat → Prop} {g : TG} (h : EvP te σ H (VN p)) (k : ∀ n H1, Ex H H1 → p n → tSeq (tFor (iRng1 (tCons (tC (ni n)) tNil)) g tu) tz D σ H1) : tSeq (tFor (iRng1 (tCons te tNil)) g tu) tz D σ H :=
  h H (Ex.refl H) _ fun v H1 e1 hv => by
    obtain ⟨n, rfl, hp⟩ := hv
    exact k n H1 e1 hp
theorem s_appP {l : Addr} {xs : List V} {R : V → Hp → Prop} (hl : H l = some (.lst xs)) (ha : Ev ta σ H (.ref l)) (h : EvP te σ H R) (hz : xs.length < 100000) (k : ∀ v H1, Ex H H1 → R v H1 → D.nx σ (upd H1 l (.lst (xs ++ [v])))) :
    tDrop (tBM K "list" rAppend ta (tCons te tNil)) D σ H := ha H (Ex.refl H) _ fun H1 e1 =>
  ⟨Or.inl ⟨rfl, xs, sq_of (e1 l _ hl)⟩, h H1 e1 _ fun v H2 e2 hv => ⟨l, xs, v, rfl, rfl, e2 l _ (e1 l _ hl), sz_lt hz, k v H2 (e1.trans e2) hv⟩⟩
theorem q_appP {l : Addr} {xs : List V} {R : V → Hp → Prop} (hl : H l = some (.lst xs)) (ha : Ev ta σ H (.ref l)) (h : EvP te σ H R) (hz : xs.length < 100000) (k : ∀ v H1, Ex H H1 → R v H1 → tz D σ (upd H1 l (.lst (xs ++ [v])))) :
    tSeq (tDrop (tBM K "list" rAppend ta (tCons te tNil))) tz D σ H := s_appP (D := { D with nx := tz D }) hl ha h hz k
/-- a test of which no more is known -/
def EvTA (t : TT) (σ : L2.St) (H : Hp) : Prop := ∀ H1, Ex H H1 → ∀ Q : Bool → Hp → Prop, (∀ b H2, Ex H1 H2 → Q b H2) → t σ H1 Q
theorem eta_cmp {r : Int → Int → Bool} {p q : Nat → Prop} (ha : EvP ta σ H (VN p)) (hb : EvP tb σ H (VN q)) : EvTA (tTest (tOp (rI0 fun i j => .bl (r i j)) ta tb)) σ H := fun H1 e Q q =>
  ha H1 e _ fun x H2 e2 hx => hb H2 (e.trans e2) _ fun y H3 e3 hy => by
    obtain ⟨a, rfl, _⟩ := hx
    obtain ⟨b, rfl, _⟩ := hy
    exact ⟨_, _, rfl, rfl, _, rfl, q _ H3 (e2.trans e3)⟩
theorem eta_eq {p q : Nat → Prop} (ha : EvP ta σ H (VN p)) (hb : EvP tb σ H (VN q)) : EvTA (tTest (tOp rEq ta tb)) σ H := fun H1 e Q q =>
  ha H1 e _ fun x H2 e2 hx => hb H2 (e.trans e2) _ fun y H3 e3 hy => by
    obtain ⟨a, rfl, _⟩ := hx
    obtain ⟨b, rfl, _⟩ := hy
    exact ⟨rfl, _, rfl, q _ H3 (e2.trans e3)⟩
theorem q_whenA {t : TT} (h : EvTA t σ H) (h1 : ∀ H1, Ex H H1 → tu { D with nx := tz D } σ H1) (h2 : ∀ H1, Ex H H1 → tz D σ H1) : tSeq (tIfS t tu tNext) tz D σ H := h H (Ex.refl H) _ fun b H1 e => by
  cases b with
  | true => exact h1 H1 e
  | false => exact h2 H1 e
theorem evp_ifA {t : TT} {R : V → Hp → Prop} (h : EvTA t σ H) (h1 : EvP ta σ H R) (h2 : EvP tb σ H R) : EvP (tIf t ta tb) σ H R := fun H1 e Q q => h H1 e _ fun b H2 e2 => by
  cases b with
  | true => exact h1 H2 (e.trans e2) Q fun v H3 e3 hv => q v H3 (e2.trans e3) hv
  | false => exact h2 H2 (e.trans e2) Q fun v H3 e3 hv => q v H3 (e2.trans e3) hv
def CP : Unit → V → Hp → Prop := fun _ => VN fun c => c ≤ 996
theorem cp_steady : Steady CP := fun _ _ _ _ _ h => h
/-- a number behind a word, in a new tuple -/
theorem evp_tup2 {z : Str} {p : Nat → Prop} (h : EvP te σ H (VN p)) : EvP (tTup (tCons (tC (.str z)) (tCons te tNil))) σ H (fun v H => ∃ n, TupV [.str z, ni n] v H ∧ p n) := fun H1 e Q q =>
  h H1 e _ fun v H2 e2 hv => by
    obtain ⟨n, rfl, hp⟩ := hv
    exact ⟨sz_of (Nat.le_of_ble_eq_true rfl), fun l hl => q _ _ (e2.trans (Ex.new hl)) ⟨n, ⟨l, rfl, upd_same⟩, hp⟩⟩
end
section
variable {P : Program} {w : World} {K : PySem.W.Frag} {mg : Str → Option Value} {base : Heap}
abbrev s_law_dr_gate : Stmt := top 49
abbrev N_law_dr_gate : List Str := ["_law_dice_here", "_law_field", "_law_at", "_law_may_multiply", "_law_i", "_law_j", "_law_c", "_law_word"]
theorem sc_law_dr_gate : FnScope N_law_dr_gate ["_law_dice_here", "_law_field", "_law_at", "_law_may_multiply"] (defScope s_law_dr_gate) := ⟨rfl, rfl, rfl, by decide +kernel, rfl, by decide +kernel, by decide +kernel⟩
def GV (n : Nat) (may : Bool) : V → Hp → Prop := fun v H => ∃ g : G, TupV g.vs v H ∧ OkG n g ∧ g.isInp = false ∧ (g.isPro = true → may = true)
def spDrG : Sp := fun vs H Q _ => ∃ (d : Addr) (f n : Nat) (may : Bool), vs = [.ref d, ni f, ni n, .bl may] ∧ Dice H d ∧ IsF f ∧ 1 ≤ n ∧ n ≤ 60 ∧ RetP (GV n may) H Q
theorem spp_drG {d : Addr} {f n : Nat} {may : Bool} {H : Hp} (hd : Dice H d) (hf : IsF f) (h1 : 1 ≤ n) (h6 : n ≤ 60) : SpP spDrG [.ref d, ni f, ni n, .bl may] H (GV n may) := fun H1 e Q q E => ⟨d, f, n, may, rfl, hd.ex e, hf, h1, h6, q⟩
def words (may : Bool) : List V := [.str "sum", .str "sum", .str "times", .str "constant"] ++ (List.replicate (if may then 4 else 0) [V.str "product"]).flatten
theorem words_mem {may : Bool} {v : V} (h : v ∈ words may) : v = .str "sum" ∨ v = .str "times" ∨ v = .str "constant" ∨ (v = .str "product" ∧ may = true) := by
  cases may with
  | true =>
    have h : v ∈ [V.str "sum", .str "sum", .str "times", .str "constant", .str "product", .str "product", .str "product", .str "product"] := h
    simp only [List.mem_cons, List.not_mem_nil, or_false] at h
    rcases h with h | h | h | h | h | h | h | h
    · exact .inl h
    · exact .inl h
    · exact .inr (.inl h)
    · exact .inr (.inr (.inl h))
    all_goals exact .inr (.inr (.inr ⟨h, rfl⟩))
  | false =>
    have h : v ∈ [V.str "sum", .str "sum", .str "times", .str "constant"] := h
    simp only [List.mem_cons, List.not_mem_nil, or_false] at h
    rcases h with h | h | h | h
    · exact .inl h
    · exact .inl h
    · exact .inr (.inl h)
    · exact .inr (.inr (.inl h))
theorem words_len (may : Bool) : 1 ≤ (words may).length ∧ (words may).length < 1073741824 := by cases may <;> decide
theorem cal_law_dr_gate (G0 : Glo mg) (c__law_roll : Cal P w K mg base 1 "_law_roll" ["_law_dice_here", "_law_most"] spRoll) (c__law_pick : Cal P w K mg base 2 "_law_pick" ["_law_dice_here", "_law_items"] (spPick K))
    (F : FunX K mg "_law_dr_gate" "_law_dr_gate" "_law_dr_gate" s_law_dr_gate ["_law_dice_here", "_law_field", "_law_at", "_law_may_multiply"]) : Cal P w K mg base 3 "_law_dr_gate" ["_law_dice_here", "_law_field", "_law_at", "_law_may_multiply"] spDrG := by
  have G := G0
  refine Cal.mk' F sc_law_dr_gate (fun vs H Q E h => ?_) (fun f cdv A outer s H vs Q E hr h => ?_)
  · obtain ⟨d, f, n, may, rfl, _⟩ := h
    rfl
  · obtain ⟨d, f, n, may, rfl, hd, hf, h1, h6, k⟩ := h
    refine ⟨_, (pss_cons (ps_par3 (i := 4) (j := 5) (l := 6) (by rfl) sc_law_dr_gate.nd rfl rfl rfl (by decide) (by decide) (by decide) rfl rfl rfl (pa_cons (pe_cal c__law_roll (hr.mono (by decide)) (by rfl) (pa_cons (pv 0) (pa_cons (pv 2) pa_nil))) (pa_cons (pe_cal c__law_roll (hr.mono (by decide)) (by rfl) (pa_cons (pv 0) (pa_cons (pv 2) pa_nil))) (pa_cons (pe_cal c__law_pick (hr.mono (by decide)) (by rfl) (pa_cons (pv 0) (pa_cons (pe_lst (pa_cons pe_int (pa_cons pe_int (pa_cons pe_int (pa_cons (pe_op op_sub (pv 1) pe_int) (pa_cons (pe_cal c__law_roll (hr.mono (by decide)) (by rfl) (pa_cons (pv 0) (pa_cons (pv 1) pa_nil))) pa_nil)))))) pa_nil))) pa_nil))) (by rfl))
      (pss_cons (ps_set (i := 7) sc_law_dr_gate.nd rfl (Or.inl rfl) (pe_cal c__law_pick (hr.mono (by decide)) (by rfl) (pa_cons (pv 0) (pa_cons (pe_op op_cat (pe_lst (pa_cons pe_str (pa_cons pe_str (pa_cons pe_str (pa_cons pe_str pa_nil))))) (pe_op op_rep (pe_lst (pa_cons pe_str pa_nil)) (pe_ifExp (pt_val (pv 3)) pe_int pe_int))) pa_nil))))
      (pss_cons (ps_if (pt_cmpR op_eq (pv 7) pe_str (nomark _)) (pss_one (ps_ret (pe_tup (pa_cons (pv 7) (pa_cons (pv 6) pa_nil))))) pss_nil)
      (pss_one (ps_ret (pe_ifExp (pt_cmpR op_eq (pv 7) pe_str (nomark _)) (pe_tup (pa_cons (pv 7) (pa_cons (pv 4) (pa_cons (pv 6) pa_nil)))) (pe_tup (pa_cons (pv 7) (pa_cons (pv 4) (pa_cons (pv 5) pa_nil)))))))))), ?_⟩
    have f1 := hf.lo
    have f2 := hf.hi
    refine evp_cal (ea_cons (ev_var rfl) (ea_cons (ev_var rfl) ea_nil)) (spp_roll hd h1 (by omega)) H (Ex.refl H) _ fun v1 H1 e1 hv1 => ?_
    refine evp_cal (ea_cons (ev_var rfl) (ea_cons (ev_var rfl) ea_nil)) (spp_roll (hd.ex e1) h1 (by omega)) H1 (Ex.refl H1) _ fun v2 H2 e2 hv2 => ?_
    have hd2 := hd.ex (e1.trans e2)
    refine evp_pickT (ks := [(), (), (), (), ()]) cp_steady (ev_var rfl) hd2 (el_lstT cp_steady (eat_cons cp_steady (evp_n (n := 0) ev_c (by decide)) (eat_cons cp_steady (evp_n (n := 1) ev_c (by decide)) (eat_cons cp_steady (evp_n (n := 2) ev_c (by decide))
      (eat_cons cp_steady (evp_subN (p := fun x => x = f) (q := fun x => x = 1) (evp_n (ev_var rfl) rfl) (evp_n (n := 1) ev_c rfl) fun a b ha hb => by omega) (eat_cons cp_steady ((evp_cal (ea_cons (ev_var rfl) (ea_cons (ev_var rfl) ea_nil)) (spp_roll hd2 (by omega) (by omega))).imp fun v H3 _ hv => by
        obtain ⟨r, rfl, hr⟩ := hv
        exact ⟨r, rfl, by omega⟩) eat_nil))))) (by decide)) (by decide) (by decide) H2 (Ex.refl H2) _ fun v3 H3 e3 hv3 => ?_
    obtain ⟨i, rfl, hi⟩ := hv1
    obtain ⟨j, rfl, hj⟩ := hv2
    obtain ⟨_, _, c, rfl, hc⟩ := hv3
    have e123 := (e1.trans e2).trans e3
    have hd3 := hd.ex e123
    refine ⟨_, _, _, rfl, ?_⟩
    have hw : EvL (tOp rCat (tLst (tCons (tC (.str "sum")) (tCons (tC (.str "sum")) (tCons (tC (.str "times")) (tCons (tC (.str "constant")) tNil))))) (tOp rRep (tLst (tCons (tC (.str "product")) tNil)) (tIf (tB (tVar 3)) (tC (.int 4)) (tC (.int 0))))) [some (.ref d), some (ni f), some (ni n), some (.bl may), some (ni i), some (ni j), some (ni c), none] H3 (words may) :=
      el_cat (el_lst (ea_cons ev_c (ea_cons ev_c (ea_cons ev_c (ea_cons ev_c ea_nil)))) (by decide)) (el_rep (el_lst (ea_cons ev_c ea_nil) (by decide)) (ev_if (et_B (ev_var rfl)) (fun h => by rw [h]; exact ev_c) (fun h => by rw [h]; exact ev_c)) (by cases may <;> decide) (by cases may <;> decide)) (by cases may <;> decide)
    refine q_asgP (evp_pick (R := fun vs _ => vs = words may) (fun _ _ _ _ h => h) (ev_var rfl) hd3 (elp_of hw) fun vs H4 h => by rw [h]; exact words_len may) fun v4 H4 e4 hv4 => ?_
    obtain ⟨ws, rfl, hws⟩ := hv4
    have hE := e123.trans e4
    rcases words_mem hws with rfl | rfl | rfl | ⟨rfl, hm⟩
    · refine q_when (b := false) (et_is (et_test (ev_op (ev_var rfl) ev_c (rv_eq rfl))) (by decide +kernel)) (fun h => nomatch h) fun _ H5 e5 => ?_
      exact s_retP (evp_if (b := false) (et_is (et_test (ev_op (ev_var rfl) ev_c (rv_eq rfl))) (by decide +kernel)) (fun h => nomatch h) fun _ => evp_U (eu_tup (ea_cons (ev_var rfl) (ea_cons (ev_var rfl) (ea_cons (ev_var rfl) ea_nil))) (Nat.le_of_ble_eq_true rfl))) fun v H6 e6 hv => k v H6 ((hE.trans e5).trans e6) ⟨.sum i j, hv, ⟨hi, hj⟩, rfl, fun h => nomatch h⟩
    · refine q_when (b := false) (et_is (et_test (ev_op (ev_var rfl) ev_c (rv_eq rfl))) (by decide +kernel)) (fun h => nomatch h) fun _ H5 e5 => ?_
      exact s_retP (evp_if (b := true) (et_is (et_test (ev_op (ev_var rfl) ev_c (rv_eq rfl))) (by decide +kernel)) (fun _ => evp_U (eu_tup (ea_cons (ev_var rfl) (ea_cons (ev_var rfl) (ea_cons (ev_var rfl) ea_nil))) (Nat.le_of_ble_eq_true rfl))) (fun h => nomatch h)) fun v H6 e6 hv => k v H6 ((hE.trans e5).trans e6) ⟨.mul i c, hv, ⟨hi, hc⟩, rfl, fun h => nomatch h⟩
    · refine q_when (b := true) (et_is (et_test (ev_op (ev_var rfl) ev_c (rv_eq rfl))) (by decide +kernel)) (fun _ H5 e5 => ?_) (fun h => nomatch h)
      exact s_retP (evp_U (eu_tup (ea_cons (ev_var rfl) (ea_cons (ev_var rfl) ea_nil)) (Nat.le_of_ble_eq_true rfl))) fun v H6 e6 hv => k v H6 ((hE.trans e5).trans e6) ⟨.con c, hv, hc, rfl, fun h => nomatch h⟩
    · refine q_when (b := false) (et_is (et_test (ev_op (ev_var rfl) ev_c (rv_eq rfl))) (by decide +kernel)) (fun h => nomatch h) fun _ H5 e5 => ?_
      exact s_retP (evp_if (b := false) (et_is (et_test (ev_op (ev_var rfl) ev_c (rv_eq rfl))) (by decide +kernel)) (fun h => nomatch h) fun _ => evp_U (eu_tup (ea_cons (ev_var rfl) (ea_cons (ev_var rfl) (ea_cons (ev_var rfl) ea_nil))) (Nat.le_of_ble_eq_true rfl))) fun v H6 e6 hv => k v H6 ((hE.trans e5).trans e6) ⟨.pro i j, hv, ⟨hi, hj⟩, rfl, fun _ => hm⟩
end
end Ec
set_option maxRecDepth 100000
set_option maxHeartbeats 4000000
/-! the law's defs: gates, outputs, numbers drawn -/
namespace Ec
open PySem PySem.Spec PyProof.Rows L2 Evl SlX
/-- gates in the making: at most n of them, a inputs, p products -/
structure Gi (gs : List G) (n a p : Nat) : Prop where
  ne : 1 ≤ gs.length
  le : gs.length ≤ n
  ok : ∀ (i : Nat) g, gs[i]? = some g → OkG i g
  inp : inN gs ≤ a
  pro : gs.countP G.isPro ≤ p
theorem Gi.mono {gs : List G} {n a p n' a' p' : Nat} (h : Gi gs n a p) (h1 : n ≤ n') (h2 : a ≤ a') (h3 : p ≤ p') : Gi gs n' a' p' := ⟨h.ne, Nat.le_trans h.le h1, h.ok, Nat.le_trans h.inp h2, Nat.le_trans h.pro h3⟩
theorem snoc_ok {gs : List G} {g : G} (h : ∀ (i : Nat) g, gs[i]? = some g → OkG i g) (hg : OkG gs.length g) : ∀ (i : Nat) g', (gs ++ [g])[i]? = some g' → OkG i g' := fun i g' hi => by
  by_cases hl : i < gs.length
  · rw [List.getElem?_append_left hl] at hi
    exact h i g' hi
  · have hi2 := (List.getElem?_eq_some_iff.mp hi).1
    rw [List.length_append] at hi2
    have h1 : [g].length = 1 := rfl
    have e : i = gs.length := by omega
    subst e
    rw [List.getElem?_append_right (Nat.le_refl _), Nat.sub_self] at hi
    cases hi
    exact hg
theorem Gi.snoc {gs : List G} {g : G} {n a p : Nat} (h : Gi gs n a p) (hg : OkG gs.length g) : Gi (gs ++ [g]) (n + 1) (a + if g.isInp then 1 else 0) (p + if g.isPro then 1 else 0) := by
  refine ⟨by rw [List.length_append]; have := h.ne; omega, by rw [List.length_append]; have := h.le; exact Nat.succ_le_succ this, snoc_ok h.ok hg, ?_, ?_⟩
  · rw [inN_snoc]
    exact Nat.add_le_add_right h.inp _
  · rw [List.countP_append, List.countP_cons, List.countP_nil, Nat.zero_add]
    exact Nat.add_le_add_right h.pro _
theorem Gi.done {gs : List G} {n a p : Nat} (h : Gi gs n a p) (h1 : n ≤ 60) (h2 : a ≤ 8) (h3 : p ≤ 12) : OkGs gs := ⟨h.ne, Nat.le_trans h.le h1, h.ok, Nat.le_trans h.inp h2, Nat.le_trans h.pro h3⟩
def GT : G → V → Hp → Prop := fun g v H => TupV g.vs v H
theorem gt_steady : Steady GT := tupV_steady G.vs
def OT : Nat × List Nat → V → Hp → Prop := fun o v H => ∃ p, v = .ref p ∧ OutAt H p o
theorem ot_steady : Steady OT := fun k v H H' e h => by
  obtain ⟨p, rfl, hp⟩ := h
  exact ⟨p, rfl, hp.ext e⟩
theorem gates_of {H : Hp} {a : Addr} {vs : List V} {gs : List G} (h : H a = some (.tup vs)) (t : Told GT gs vs H) : GatesAt H a gs := by
  obtain ⟨ps, rfl, h1, h2⟩ := told_refs (Pa := fun (g : G) p H => H p = some (.tup g.vs)) t fun k v h => h
  exact ⟨ps, h, h1, h2⟩
theorem outs_of {H : Hp} {a : Addr} {vs : List V} {os : List (Nat × List Nat)} (h : H a = some (.tup vs)) (t : Told OT os vs H) : OutsAt H a os := by
  obtain ⟨ps, rfl, h1, h2⟩ := told_refs (Pa := fun (o : Nat × List Nat) p H => OutAt H p o) t fun k v h => h
  exact ⟨ps, h, h1, h2⟩
theorem told_of_gates {H : Hp} {a : Addr} {gs : List G} (h : GatesAt H a gs) : ∃ vs, H a = some (.tup vs) ∧ Told GT gs vs H := by
  obtain ⟨vs, h1, h2, h3⟩ := h.at_
  refine ⟨vs, h1, h2, fun j k v hk hv => ?_⟩
  obtain ⟨p, g, rfl, hg, hp⟩ := h3 j v hv
  rw [hk] at hg
  cases hg
  exact ⟨p, rfl, hp⟩
theorem told_of_outs {H : Hp} {a : Addr} {os : List (Nat × List Nat)} (h : OutsAt H a os) : ∃ vs, H a = some (.tup vs) ∧ Told OT os vs H := by
  obtain ⟨vs, h1, h2, h3⟩ := h.at_
  refine ⟨vs, h1, h2, fun j k v hk hv => ?_⟩
  obtain ⟨p, g, rfl, hg, hp⟩ := h3 j v hv
  rw [hk] at hg
  cases hg
  exact ⟨p, rfl, hp⟩
section
variable {P : Program} {w : World} {K : PySem.W.Frag} {mg : Str → Option Value} {base : Heap}
theorem q_parLV {D : Ends} {tz : TS} {σ : L2.St} {H : Hp} {ta tb : TE} {y : V} {i j : Nat} {R : List V → Hp → Prop} (hR : ∀ vs H H', Ex H H' → R vs H → R vs H') (ha : EvLP ta σ H R) (hb : Ev tb σ H y)
    (k : ∀ p vs H1, H p = none → Ex H H1 → H1 p = some (.lst vs) → R vs H1 → tz D ((σ.set i (some (.ref p))).set j (some y)) H1) : tSeq (tPar i j (tCons ta (tCons tb tNil))) tz D σ H :=
  ha H (Ex.refl H) _ fun p vs H1 hp e1 h1 hr => hb H1 e1 _ fun H2 e2 => ⟨_, _, rfl, k p vs H2 hp (e1.trans e2) (e2 _ _ h1) (hR _ _ _ e2 hr)⟩
abbrev s_law_dr_gates : Stmt := top 50
abbrev N_law_dr_gates : List Str := ["_law_dice_here", "_law_field", "_law_houses", "_law_many", "_law_products", "_law_found", "_law_left", "_law_turn", "_law_gate"]
theorem sc_law_dr_gates : FnScope N_law_dr_gates ["_law_dice_here", "_law_field", "_law_houses", "_law_many", "_law_products"] (defScope s_law_dr_gates) := ⟨rfl, rfl, rfl, by decide +kernel, rfl, by decide +kernel, by decide +kernel⟩
def GsV (n : Nat) : V → Hp → Prop := fun v H => ∃ (a : Addr) (gs : List G), v = .ref a ∧ GatesAt H a gs ∧ Gi gs n 4 6
def spDrGs : Sp := fun vs H Q _ => ∃ (d : Addr) (f h many pr : Nat), vs = [.ref d, ni f, ni h, ni many, ni pr] ∧ Dice H d ∧ IsF f ∧ 1 ≤ h ∧ h ≤ 9 ∧ many ≤ 19 ∧ pr ≤ 6 ∧ RetP (GsV 23) H Q
theorem spp_drGs {d : Addr} {f h many pr : Nat} {H : Hp} (hd : Dice H d) (hf : IsF f) (h1 : 1 ≤ h) (h9 : h ≤ 9) (hm : many ≤ 19) (hp : pr ≤ 6) : SpP spDrGs [.ref d, ni f, ni h, ni many, ni pr] H (GsV 23) := fun H1 e Q q E => ⟨d, f, h, many, pr, rfl, hd.ex e, hf, h1, h9, hm, hp, q⟩
def InpV : V → Hp → Prop := fun v H => ∃ x, TupV (G.inp x).vs v H ∧ 1 ≤ x ∧ x ≤ 9
def InpP : Unit → V → Hp → Prop := fun _ => InpV
theorem inpV_steady : Steady InpP := fun _ v H H' e h => by
  obtain ⟨x, hv, hx⟩ := h
  exact ⟨x, tupV_steady (fun _ : Unit => (G.inp x).vs) () _ _ _ e hv, hx⟩
theorem evp_inp {σ : L2.St} {H : Hp} {ta tb : TE} {d : Addr} {h : Nat} (ha : Ev ta σ H (.ref d)) (hb : Ev tb σ H (ni h)) (hd : Dice H d) (h1 : 1 ≤ h) (h9 : h ≤ 9) : EvP (tTup (tCons (tC (.str "input")) (tCons (tOp (rI0 fun i j => .int (i + j)) (tC (.int 1)) (tCall spRoll [] E0 (tCons ta (tCons tb tNil)))) tNil))) σ H InpV :=
  (evp_tup2 (z := "input") (p := fun x => 1 ≤ x ∧ x ≤ 9) (evp_addN (evp_n (n := 1) (p := fun x => x = 1) ev_c rfl) (evp_cal (ea_cons ha (ea_cons hb ea_nil)) (spp_roll hd h1 (by omega))) fun a b ha hb => by omega)).imp fun v H2 _ h => by
    obtain ⟨n, hv, hn⟩ := h
    exact ⟨n, hv, hn⟩
theorem cal_law_dr_gates (G0 : Glo mg) (c__law_roll : Cal P w K mg base 1 "_law_roll" ["_law_dice_here", "_law_most"] spRoll) (c__law_dr_gate : Cal P w K mg base 3 "_law_dr_gate" ["_law_dice_here", "_law_field", "_law_at", "_law_may_multiply"] spDrG)
    (F : FunX K mg "_law_dr_gates" "_law_dr_gates" "_law_dr_gates" s_law_dr_gates ["_law_dice_here", "_law_field", "_law_houses", "_law_many", "_law_products"]) : Cal P w K mg base 4 "_law_dr_gates" ["_law_dice_here", "_law_field", "_law_houses", "_law_many", "_law_products"] spDrGs := by
  have G := G0
  refine Cal.mk' F sc_law_dr_gates (fun vs H Q E h => ?_) (fun f cdv A outer s H vs Q E hr h => ?_)
  · obtain ⟨d, f, h, many, pr, rfl, _⟩ := h
    rfl
  · obtain ⟨d, f, h, many, pr, rfl, hd, hf, h1, h9, hm, hpr, k⟩ := h
    refine ⟨_, (pss_cons (ps_par (i := 5) (j := 6) (by rfl) sc_law_dr_gates.nd rfl rfl (by decide) rfl rfl (pa_cons (pe_lst (pa_cons (pe_tup (pa_cons pe_str (pa_cons (pe_op op_add pe_int (pe_cal c__law_roll (hr.mono (by decide)) (by rfl) (pa_cons (pv 0) (pa_cons (pv 2) pa_nil)))) pa_nil))) pa_nil)) (pa_cons (pv 4) pa_nil)) (by rfl))
      (pss_cons (ps_for PassesOwn.never rfl (pi_range1 (by rfl) G.range (pa_cons (pe_cal c__law_roll (hr.mono (by decide)) (by rfl) (pa_cons (pv 0) (pa_cons pe_int pa_nil))) pa_nil)) (pg_name (i := 7) sc_law_dr_gates.nd rfl (Or.inl rfl) (Or.inr rfl)) (pss_one (ps_expr (pe_bm PySem.F.plainAttrs_list PySem.F.slot_list_append PySem.F.type_list_append mt_append (pv 5) (pa_cons (pe_tup (pa_cons pe_str (pa_cons (pe_op op_add pe_int (pe_cal c__law_roll (hr.mono (by decide)) (by rfl) (pa_cons (pv 0) (pa_cons (pv 2) pa_nil)))) pa_nil))) pa_nil)))))
      (pss_cons (ps_for PassesOwn.never rfl (pi_range1 (by rfl) G.range (pa_cons (pv 3) pa_nil)) (pg_name (i := 7) sc_law_dr_gates.nd rfl (Or.inl rfl) (Or.inr rfl)) (pss_cons (ps_set (i := 8) sc_law_dr_gates.nd rfl (Or.inl rfl) (pe_cal c__law_dr_gate (hr.mono (by decide)) (by rfl) (pa_cons (pv 0) (pa_cons (pv 1) (pa_cons (pe_callB call_len_seq (by rfl) G.len PySem.boot_len (pa_cons (pv 5) pa_nil)) (pa_cons (pe_cmpR op_gt (pv 6) pe_int (nomark _)) pa_nil))))))
      (pss_cons (ps_set (i := 6) sc_law_dr_gates.nd rfl (Or.inl rfl) (pe_op op_sub (pv 6) (pe_callTy call_int1 (by rfl) G.int (by decide +kernel) (pa_cons (pe_cmpR op_eq (pe_ix ix_tup (pv 8) pe_int (fun _ _ => rfl)) pe_str (nomark _)) pa_nil))))
      (pss_one (ps_expr (pe_bm PySem.F.plainAttrs_list PySem.F.slot_list_append PySem.F.type_list_append mt_append (pv 5) (pa_cons (pv 8) pa_nil)))))))
      (pss_cons (ps_if (pt_cmpR op_eq (pe_cal c__law_roll (hr.mono (by decide)) (by rfl) (pa_cons (pv 0) (pa_cons pe_int pa_nil))) pe_int (nomark _)) (pss_one (ps_expr (pe_bm PySem.F.plainAttrs_list PySem.F.slot_list_append PySem.F.type_list_append mt_append (pv 5) (pa_cons (pe_tup (pa_cons pe_str (pa_cons (pe_op op_add pe_int (pe_cal c__law_roll (hr.mono (by decide)) (by rfl) (pa_cons (pv 0) (pa_cons (pv 2) pa_nil)))) pa_nil))) pa_nil)))) pss_nil)
      (pss_one (ps_ret (pe_callTy call_tuple_of (by rfl) G.tuple (by decide +kernel) (pa_cons (pv 5) pa_nil)))))))), ?_⟩
    -- the first gate
    refine q_parLV (Told.mono inpV_steady) (el_lstT (ks := [()]) inpV_steady (eat_cons inpV_steady (evp_inp (ev_var rfl) (ev_var rfl) hd h1 h9) eat_nil) (by decide)) (ev_var rfl) fun l vs1 H1 hl0 e1' hl1 hv1 => ?_
    obtain ⟨v1, rfl⟩ : ∃ v, vs1 = [v] := by
      match vs1, hv1.1 with
      | [v], _ => exact ⟨v, rfl⟩
    obtain ⟨x1, hx1, hx1a, hx1b⟩ := hv1.2 0 () v1 rfl rfl
    have ht1 : Told GT [Ec.G.inp x1] [v1] H1 := Told.cons hx1 Told.nil
    have hg1 : Gi [Ec.G.inp x1] 1 1 0 := by
      refine ⟨Nat.le_refl _, Nat.le_refl _, fun i g hi => ?_, Nat.le_refl _, Nat.le_refl _⟩
      cases i with
      | zero =>
        cases hi
        exact ⟨hx1a, hx1b⟩
      | succ i => cases hi
    -- more inputs
    refine q_forRP (p := fun n => n < 3) (evp_cal (ea_cons (ev_var rfl) (ea_cons (ev_c : Ev (tC (.int 3)) _ _ (ni 3)) ea_nil)) (spp_roll (hd.ex e1') (by decide) (by decide))) fun n H2 e2 hn => ?_
    refine q_forR1 (n := (n : Int)) (ea_cons ev_c ea_nil) (by omega) (fun i σ' H' => i ≤ n ∧ ∃ (gs : List Ec.G) (vs : List V) (o : Option V), σ' = [some (.ref d), some (ni f), some (ni h), some (ni many), some (ni pr), some (.ref l), some (ni pr), o, none] ∧ Ex H H' ∧ H' l = some (.lst vs) ∧ Told GT gs vs H' ∧ Gi gs (1 + i) (1 + i) 0)
      (fun H3 e3 => ⟨Nat.zero_le _, [Ec.G.inp x1], [v1], none, rfl, (e1'.trans e2).trans e3, e3 _ _ (e2 _ _ hl1), ht1.ext gt_steady (ext_of (e2.trans e3)), hg1⟩) (fun i σ' H' hi hP => ?m1) fun σ' H' hP => ?m2
    case m1 =>
      obtain ⟨_, gs, vs, o, rfl, e, hv, ht, hg⟩ := hP
      have hlen := ht.1
      have hle := hg.le
      refine s_appP hv (ev_var rfl) (evp_inp (ev_var rfl) (ev_var rfl) (hd.ex e) h1 h9) (by omega) fun v H3 e3 hvv => ?_
      obtain ⟨x, hx, hxa, hxb⟩ := hvv
      refine ⟨by omega, gs ++ [Ec.G.inp x], vs ++ [v], _, rfl, Ex.mut (e.trans e3) hl0, upd_same, ((ht.ext gt_steady (ext_of e3)).snoc hx).ext gt_steady (ext_l (e3 _ _ hv)), ?_⟩
      exact (hg.snoc (g := .inp x) ⟨hxa, hxb⟩).mono (Nat.le_refl _) (Nat.le_refl _) (Nat.le_refl _)
    obtain ⟨_, gs, vs, o, rfl, e, hv, ht, hg⟩ := hP
    clear ht1 hg1 hx1
    -- the gates between
    have hg : Gi gs 3 3 0 := hg.mono (by omega) (by omega) (Nat.le_refl _)
    refine q_forR1 (n := (many : Int)) (ea_cons (ev_var rfl) ea_nil) (by omega) (fun i σ' H' => i ≤ many ∧ ∃ (gs : List Ec.G) (vs : List V) (o o2 : Option V) (left : Nat), σ' = [some (.ref d), some (ni f), some (ni h), some (ni many), some (ni pr), some (.ref l), some (ni left), o, o2] ∧ Ex H H' ∧ H' l = some (.lst vs) ∧ Told GT gs vs H' ∧ left ≤ pr ∧ Gi gs (3 + i) 3 (pr - left))
      (fun H3 e3 => ⟨Nat.zero_le _, gs, vs, _, _, pr, rfl, e.trans e3, e3 _ _ hv, ht.ext gt_steady (ext_of e3), Nat.le_refl _, hg.mono (by omega) (Nat.le_refl _) (Nat.zero_le _)⟩) (fun i σ' H' hi hP => ?m3) fun σ' H' hP => ?m4
    case m3 =>
      obtain ⟨_, gs, vs, o, o2, left, rfl, e, hv, ht, hlp, hg⟩ := hP
      have hlen := ht.1
      have hne := hg.ne
      have hle := hg.le
      refine q_asgP (evp_cal (ea_cons (ev_var rfl) (ea_cons (ev_var rfl) (ea_cons (ev_is (ev_len (ev_var rfl) (sq_of hv)) (by rw [hlen]; rfl : _ = ni gs.length)) (ea_cons (ev_op (ev_var rfl) ev_c rv_I0) ea_nil)))) (spp_drG (hd.ex e) hf hne (by omega))) fun v H3 e3 hvv => ?_
      obtain ⟨g, ⟨q, rfl, hq⟩, okg, gi, gp⟩ := hvv
      have hv3 := e3 _ _ hv
      have hpro : decide (V.str g.word = V.str "product") = g.isPro := (dec_word g "product").trans (w_pro g)
      have hleft : g.isPro = true → 1 ≤ left := fun z => by
        have := of_decide_eq_true (gp z)
        omega
      refine q_asg (v := ni (left - if g.isPro then 1 else 0)) (ev_is (ev_op (ev_var rfl) (ev_intB (ev_is (ev_op (ev_op (ev_var rfl) ev_c (rv_ixT (SqT.of hq) (at_word g))) ev_c (rv_eq rfl)) (congrArg V.bl hpro))) rv_I0) ?m5) fun H4 e4 => ?_
      case m5 =>
        unfold ni
        congr 1
        cases hz : g.isPro with
        | true =>
          have := hleft hz
          show (left : Int) - 1 = ((left - 1 : Nat) : Int)
          omega
        | false =>
          show (left : Int) - 0 = ((left - 0 : Nat) : Int)
          omega
      have hv4 := e4 _ _ hv3
      refine s_app hv4 (ev_var rfl) (ev_var rfl) (by omega) fun H5 e5 => ?_
      have e45 := e4.trans e5
      refine ⟨by omega, gs ++ [g], vs ++ [.ref q], _, _, _, rfl, Ex.mut ((e.trans e3).trans e45) hl0, upd_same, ((ht.ext gt_steady (ext_of (e3.trans e45))).snoc ⟨q, rfl, e45 _ _ hq⟩).ext gt_steady (ext_l (e5 _ _ hv4)), by omega, ?_⟩
      refine (hg.snoc okg).mono (by omega) (by rw [gi]; exact Nat.le_refl _) ?_
      cases hz : g.isPro with
      | true =>
        have := hleft hz
        show pr - left + 1 ≤ pr - (left - 1)
        omega
      | false => exact Nat.le_refl _
    obtain ⟨_, gs, vs, o, o2, left, rfl, e, hv, ht, hlp, hg⟩ := hP
    have hg : Gi gs 22 3 6 := hg.mono (by omega) (Nat.le_refl _) (by omega)
    have hlen := ht.1
    have hle := hg.le
    -- perhaps one more input
    have fin : ∀ (gs : List Ec.G) (vs : List V) σ' (H' : Hp), σ' = [some (.ref d), some (ni f), some (ni h), some (ni many), some (ni pr), some (.ref l), some (ni left), o, o2] → Ex H H' → H' l = some (.lst vs) → Told GT gs vs H' → Gi gs 23 4 6 → tRet (tCB (rTupOf K) (tCons (tVar 5) tNil)) { nx := fun _ H' => Q .non H', rt := Q } σ' H' := fun gs vs σ' H' hσ e hv ht hg => by
      subst hσ
      exact s_retU (eu_tupL (ev_var rfl) (sq_of hv)) fun p H2 _ e2 hp => k _ H2 (e.trans e2) ⟨p, gs, rfl, gates_of hp (ht.ext gt_steady (ext_of e2)), hg⟩
    refine q_whenA (eta_eq (p := fun r => r < 3) (q := fun _ => True) (evp_cal (ea_cons (ev_var rfl) (ea_cons (ev_c : Ev (tC (.int 3)) _ _ (ni 3)) ea_nil)) (spp_roll (hd.ex e) (by decide) (by decide))) (evp_n (n := 0) ev_c True.intro)) (fun H2 e2 => ?m6) (fun H2 e2 => ?m7)
    case m7 => exact fin gs vs _ H2 rfl (e.trans e2) (e2 _ _ hv) (ht.ext gt_steady (ext_of e2)) (hg.mono (by decide) (by decide) (by decide))
    case m6 =>
      refine s_appP (e2 _ _ hv) (ev_var rfl) (evp_inp (ev_var rfl) (ev_var rfl) (hd.ex (e.trans e2)) h1 h9) (by omega) fun v H3 e3 hvv => ?_
      obtain ⟨x, hx, hxa, hxb⟩ := hvv
      exact fin (gs ++ [.inp x]) (vs ++ [v]) _ _ rfl (Ex.mut ((e.trans e2).trans e3) hl0) upd_same (((ht.ext gt_steady (ext_of (e2.trans e3))).snoc hx).ext gt_steady (ext_l (e3 _ _ (e2 _ _ hv)))) (hg.snoc (g := .inp x) ⟨hxa, hxb⟩)
end
end Ec
set_option maxRecDepth 100000
set_option maxHeartbeats 4000000
/-! the law's defs: outputs, numbers drawn -/
namespace Ec
open PySem PySem.Spec PyProof.Rows L2 Evl SlX
theorem told_nums {p : Nat → Prop} {H : Hp} : ∀ {ks : List Nat} {vs : List V}, Told (fun _ => VN p) ks vs H → ∃ ns, vs = nis ns ∧ ns.length = ks.length ∧ ∀ n ∈ ns, p n := fun {ks vs} t => by
  induction vs generalizing ks with
  | nil =>
    have h := t.1
    exact ⟨[], rfl, h, fun n h => nomatch h⟩
  | cons v vs ih =>
    cases ks with
    | nil => cases t.1
    | cons k ks =>
      obtain ⟨n, rfl, hn⟩ := t.2 0 k v rfl rfl
      obtain ⟨ns, rfl, hl, hp⟩ := ih (ks := ks) ⟨Nat.succ.inj t.1, fun j k v a b => t.2 (j + 1) k v a b⟩
      refine ⟨n :: ns, rfl, congrArg Nat.succ hl, fun m hm => ?_⟩
      rcases List.mem_cons.mp hm with rfl | hm
      · exact hn
      · exact hp m hm
section
variable {P : Program} {w : World} {K : PySem.W.Frag} {mg : Str → Option Value} {base : Heap}
abbrev s_law_dr_outputs : Stmt := top 51
abbrev N_law_dr_outputs : List Str := ["_law_dice_here", "_law_gates", "_law_houses", "_law_found", "_law_turn", "_law_gate"]
theorem sc_law_dr_outputs : FnScope N_law_dr_outputs ["_law_dice_here", "_law_gates", "_law_houses"] (defScope s_law_dr_outputs) := ⟨rfl, rfl, rfl, by decide +kernel, rfl, by decide +kernel, by decide +kernel⟩
abbrev s_law_dr_numbers : Stmt := top 52
abbrev N_law_dr_numbers : List Str := ["_law_dice_here", "_law_field", "_law_many", "_law_turn"]
theorem sc_law_dr_numbers : FnScope N_law_dr_numbers ["_law_dice_here", "_law_field", "_law_many"] (defScope s_law_dr_numbers) := ⟨rfl, rfl, rfl, by decide +kernel, rfl, by decide +kernel, by decide +kernel⟩
abbrev s_law_dr_inputs : Stmt := top 53
abbrev N_law_dr_inputs : List Str := ["_law_dice_here", "_law_field", "_law_gates", "_law_gate"]
theorem sc_law_dr_inputs : FnScope N_law_dr_inputs ["_law_dice_here", "_law_field", "_law_gates"] (defScope s_law_dr_inputs) := ⟨rfl, rfl, rfl, by decide +kernel, rfl, by decide +kernel, by decide +kernel⟩
structure OsI (many n : Nat) (os : List (Nat × List Nat)) : Prop where
  le : os.length ≤ n
  ok : ∀ o ∈ os, OkO many o
def OsV (many : Nat) : V → Hp → Prop := fun v H => ∃ (a : Addr) (os : List (Nat × List Nat)), v = .ref a ∧ OutsAt H a os ∧ 1 ≤ os.length ∧ OsI many 3 os
def spDrO : Sp := fun vs H Q _ => ∃ (d ga : Addr) (h : Nat) (gs : List G), vs = [.ref d, .ref ga, ni h] ∧ Dice H d ∧ GatesAt H ga gs ∧ 1 ≤ gs.length ∧ gs.length ≤ 60 ∧ 1 ≤ h ∧ h ≤ 9 ∧ RetP (OsV gs.length) H Q
theorem spp_drO {d ga : Addr} {h : Nat} {gs : List G} {H : Hp} (hd : Dice H d) (hg : GatesAt H ga gs) (l1 : 1 ≤ gs.length) (l2 : gs.length ≤ 60) (h1 : 1 ≤ h) (h9 : h ≤ 9) : SpP spDrO [.ref d, .ref ga, ni h] H (OsV gs.length) := fun H1 e Q q E => ⟨d, ga, h, gs, rfl, hd.ex e, hg.ex e, l1, l2, h1, h9, q⟩
theorem evp_out {σ : L2.St} {H : Hp} {ta tb : TE} {g : Nat} (ha : Ev ta σ H (ni g)) (hb : EvP tb σ H HsV) : EvP (tTup (tCons ta (tCons tb tNil))) σ H (fun v H => ∃ hs, OT (g, hs) v H ∧ OkH hs) := fun H1 e Q q =>
  ha H1 e _ fun H2 e2 => hb H2 (e.trans e2) _ fun v H3 e3 hv => by
    obtain ⟨hs, ⟨p, rfl, hp⟩, ok⟩ := hv
    exact ⟨sz_of (Nat.le_of_ble_eq_true rfl), fun l hl => q _ _ ((e2.trans e3).trans (Ex.new hl)) ⟨hs, ⟨l, rfl, p, upd_same, Ex.new hl _ _ hp⟩, ok⟩⟩
theorem cal_law_dr_outputs (G0 : Glo mg) (c__law_roll : Cal P w K mg base 1 "_law_roll" ["_law_dice_here", "_law_most"] spRoll) (c__law_dr_houses : Cal P w K mg base 3 "_law_dr_houses" ["_law_dice_here", "_law_houses"] spDrH)
    (F : FunX K mg "_law_dr_outputs" "_law_dr_outputs" "_law_dr_outputs" s_law_dr_outputs ["_law_dice_here", "_law_gates", "_law_houses"]) : Cal P w K mg base 4 "_law_dr_outputs" ["_law_dice_here", "_law_gates", "_law_houses"] spDrO := by
  have G := G0
  refine Cal.mk' F sc_law_dr_outputs (fun vs H Q E h => ?_) (fun f cdv A outer s H vs Q E hr h => ?_)
  · obtain ⟨d, ga, h, gs, rfl, _⟩ := h
    rfl
  · obtain ⟨d, ga, h, gs, rfl, hd, hg, l1, l2, h1, h9, k⟩ := h
    refine ⟨_, (pss_cons (ps_set (i := 3) sc_law_dr_outputs.nd rfl (Or.inl rfl) (pe_lst pa_nil))
      (pss_cons (ps_for PassesOwn.never rfl (pi_range1 (by rfl) G.range (pa_cons (pe_op op_add pe_int (pe_cal c__law_roll (hr.mono (by decide)) (by rfl) (pa_cons (pv 0) (pa_cons pe_int pa_nil)))) pa_nil)) (pg_name (i := 4) sc_law_dr_outputs.nd rfl (Or.inl rfl) (Or.inr rfl)) (pss_cons (ps_set (i := 5) sc_law_dr_outputs.nd rfl (Or.inl rfl) (pe_ifExp (pt_cmpR op_gt (pe_cal c__law_roll (hr.mono (by decide)) (by rfl) (pa_cons (pv 0) (pa_cons pe_int pa_nil))) pe_int (nomark _)) (pe_op op_sub (pe_op op_sub (pe_callB call_len_seq (by rfl) G.len PySem.boot_len (pa_cons (pv 1) pa_nil)) pe_int) (pe_cal c__law_roll (hr.mono (by decide)) (by rfl) (pa_cons (pv 0) (pa_cons (pe_callB (call_min2 rfl) (by rfl) G.min (by decide +kernel) (pa_cons pe_int (pa_cons (pe_callB call_len_seq (by rfl) G.len PySem.boot_len (pa_cons (pv 1) pa_nil)) pa_nil))) pa_nil)))) (pe_cal c__law_roll (hr.mono (by decide)) (by rfl) (pa_cons (pv 0) (pa_cons (pe_callB call_len_seq (by rfl) G.len PySem.boot_len (pa_cons (pv 1) pa_nil)) pa_nil)))))
      (pss_one (ps_expr (pe_bm PySem.F.plainAttrs_list PySem.F.slot_list_append PySem.F.type_list_append mt_append (pv 3) (pa_cons (pe_tup (pa_cons (pv 5) (pa_cons (pe_cal c__law_dr_houses (hr.mono (by decide)) (by rfl) (pa_cons (pv 0) (pa_cons (pv 2) pa_nil))) pa_nil))) pa_nil))))))
      (pss_one (ps_ret (pe_callTy call_tuple_of (by rfl) G.tuple (by decide +kernel) (pa_cons (pv 3) pa_nil)))))), ?_⟩
    obtain ⟨gv, g1, g2, _⟩ := hg.at_
    have hT := SqT.of (K := K) g1
    refine q_asgL (el_lst ea_nil (by decide)) fun l H1 hl0 e1 hl1 => ?_
    refine q_forRP (p := fun n => 1 ≤ n ∧ n ≤ 3) (evp_addN (p := fun n => n = 1) (q := fun n => n < 3) (evp_n (n := 1) ev_c rfl) (evp_cal (ea_cons (ev_var rfl) (ea_cons (ev_c : Ev (tC (.int 3)) _ _ (ni 3)) ea_nil)) (spp_roll (hd.ex e1) (by decide) (by decide))) fun a b ha hb => by omega) fun n H2 e2 hn => ?_
    refine q_forR1 (n := (n : Int)) (ea_cons ev_c ea_nil) (by omega) (fun i σ' H' => i ≤ n ∧ ∃ (os : List (Nat × List Nat)) (vs : List V) (o1 o2 : Option V), σ' = [some (.ref d), some (.ref ga), some (ni h), some (.ref l), o1, o2] ∧ Ex H H' ∧ H' l = some (.lst vs) ∧ Told OT os vs H' ∧ os.length = i ∧ OsI gs.length i os)
      (fun H3 e3 => ⟨Nat.zero_le _, [], [], none, none, rfl, (e1.trans e2).trans e3, e3 _ _ (e2 _ _ hl1), Told.nil, rfl, Nat.le_refl _, fun o h => nomatch h⟩) (fun i σ' H' hi hP => ?m1) fun σ' H' hP => ?m2
    case m1 =>
      obtain ⟨_, os, vs, o1, o2, rfl, e, hv, ht, hlo, hos⟩ := hP
      have hd' := hd.ex e
      have hT' := ex_t e hT
      have hlen := ht.1
      have hL : ∀ (σ : L2.St) H1, Ex H' H1 → σ[1]? = some (some (.ref ga)) → Ev (tCB (rLenS K) (tCons (tVar 1) tNil)) σ H1 (ni gs.length) := fun σ H1 e1 hσ => ev_is (ev_lenT (ev_var hσ) (ex_t e1 hT')) (by rw [g2]; rfl)
      refine q_asgP (R := VN fun g => g < gs.length) (evp_ifA (eta_cmp (p := fun r => r < 3) (q := fun _ => True) (evp_cal (ea_cons (ev_var rfl) (ea_cons (ev_c : Ev (tC (.int 3)) _ _ (ni 3)) ea_nil)) (spp_roll hd' (by decide) (by decide))) (evp_n (n := 0) ev_c True.intro))
        (evp_subN (p := fun x => x = gs.length - 1) (q := fun x => x < min 3 gs.length) (evp_subN (p := fun x => x = gs.length) (q := fun x => x = 1) (evp_n (hL _ H' (Ex.refl H') rfl) rfl) (evp_n (n := 1) ev_c rfl) fun a b ha hb => by omega)
          (evp_cal (ea_cons (ev_var rfl) (ea_cons (ev_is (ev_min2 (ev_c : Ev (tC (.int 3)) _ _ (.int 3)) (hL _ H' (Ex.refl H') rfl)) ?m3) ea_nil)) (spp_roll (m := min 3 gs.length) hd' (by omega) (by omega))) fun a b ha hb => by omega)
        (evp_cal (ea_cons (ev_var rfl) (ea_cons (hL _ H' (Ex.refl H') rfl) ea_nil)) (spp_roll hd' l1 (by omega)))) fun v H3 e3 hvv => ?_
      case m3 =>
        unfold ni
        congr 1
        split <;> omega
      obtain ⟨g, rfl, hg⟩ := hvv
      have hv3 := e3 _ _ hv
      refine s_appP hv3 (ev_var rfl) (evp_out (ev_var rfl) (evp_cal (ea_cons (ev_var rfl) (ea_cons (ev_var rfl) ea_nil)) (spp_drH (hd'.ex e3) h1 h9))) (by omega) fun v H4 e4 hvv => ?_
      obtain ⟨hs, hot, okh⟩ := hvv
      refine ⟨by omega, os ++ [(g, hs)], vs ++ [v], _, _, rfl, Ex.mut ((e.trans e3).trans e4) hl0, upd_same, ((ht.ext ot_steady (ext_of (e3.trans e4))).snoc hot).ext ot_steady (ext_l (e4 _ _ hv3)), by rw [List.length_append, hlo]; rfl, by rw [List.length_append, hlo]; exact Nat.le_refl _, fun o ho => ?_⟩
      rcases List.mem_append.mp ho with ho | ho
      · exact hos.ok o ho
      · rw [List.mem_singleton.mp ho]
        exact ⟨hg, okh.ne, okh.le, okh.ran, okh.asc⟩
    case m2 =>
      obtain ⟨_, os, vs, o1, o2, rfl, e, hv, ht, hlo, hos⟩ := hP
      have hlo : os.length = n := by omega
      exact s_retU (eu_tupL (ev_var rfl) (sq_of hv)) fun p H3 _ e3 hp => k _ H3 (e.trans e3) ⟨p, os, rfl, outs_of hp (ht.ext ot_steady (ext_of e3)), by omega, by omega, hos.ok⟩
def NsV (f many : Nat) : V → Hp → Prop := fun v H => ∃ ns, TupV (nis ns) v H ∧ ns.length = many ∧ ∀ n ∈ ns, n < f
def spDrN : Sp := fun vs H Q _ => ∃ (d : Addr) (f many : Nat), vs = [.ref d, ni f, ni many] ∧ Dice H d ∧ IsF f ∧ many ≤ 100 ∧ RetP (NsV f many) H Q
theorem spp_drN {d : Addr} {f many : Nat} {H : Hp} (hd : Dice H d) (hf : IsF f) (hm : many ≤ 100) : SpP spDrN [.ref d, ni f, ni many] H (NsV f many) := fun H1 e Q q E => ⟨d, f, many, rfl, hd.ex e, hf, hm, q⟩
def FP (f : Nat) : Unit → V → Hp → Prop := fun _ => VN fun c => c < f
theorem fp_steady (f : Nat) : Steady (FP f) := fun _ _ _ _ _ h => h
theorem cal_law_dr_numbers (G0 : Glo mg) (c__law_roll : Cal P w K mg base 1 "_law_roll" ["_law_dice_here", "_law_most"] spRoll) (c__law_pick : Cal P w K mg base 2 "_law_pick" ["_law_dice_here", "_law_items"] (spPick K))
    (F : FunX K mg "_law_dr_numbers" "_law_dr_numbers" "_law_dr_numbers" s_law_dr_numbers ["_law_dice_here", "_law_field", "_law_many"]) : Cal P w K mg base 3 "_law_dr_numbers" ["_law_dice_here", "_law_field", "_law_many"] spDrN := by
  have G := G0
  refine Cal.mk' F sc_law_dr_numbers (fun vs H Q E h => ?_) (fun f cdv A outer s H vs Q E hr h => ?_)
  · obtain ⟨d, f, m, rfl, _⟩ := h
    rfl
  · obtain ⟨d, f, m, rfl, hd, hf, hm, k⟩ := h
    refine ⟨_, (pss_one (ps_ret (pe_callTy call_tuple_of (by rfl) G.tuple (by decide +kernel) (pa_cons (pe_lc (own := [("_law_turn", 3)]) rfl sc_law_dr_numbers.nd (pi_range1 (by rfl) G.range (pa_cons (pv 2) pa_nil)) (blkOk_by (own := [("_law_turn", 3)]) (N := N_law_dr_numbers) (sc := defScope s_law_dr_numbers) (by decide +kernel)) (fun _ _ _ _ _ => (pg_name (i := 3) sc_law_dr_numbers.nd rfl (Or.inl rfl) (Or.inr rfl))) (fun _ _ _ _ _ => pts_nil) (fun _ _ _ _ _ => (pe_cal c__law_pick (hr.mono (by decide)) (by rfl) (pa_cons (pv 0) (pa_cons (pe_lst (pa_cons pe_int (pa_cons pe_int (pa_cons (pe_op op_sub (pv 1) pe_int) (pa_cons (pe_cal c__law_roll (hr.mono (by decide)) (by rfl) (pa_cons (pv 0) (pa_cons (pv 1) pa_nil))) (pa_cons (pe_cal c__law_roll (hr.mono (by decide)) (by rfl) (pa_cons (pv 0) (pa_cons (pv 1) pa_nil))) pa_nil)))))) pa_nil))))) pa_nil)))), ?_⟩
    have f1 := hf.lo
    have f2 := hf.hi
    refine s_retUP ((eu_tupP (Told.mono (fun _ _ _ _ _ h => h)) (el_lcR1P (n := m) (fun _ => true) (fun _ => VN fun c => c < f) (fun _ _ _ _ _ h => h) (ea_cons (ev_var rfl) ea_nil) (by omega) (fun _ => rfl) (fun _ _ _ _ => et_yes) fun i H1 e1 hi _ => ?m1)).imp fun vs H1 _ h => told_nums h) fun p vs H1 _ e1 hp hv => ?m2
    case m2 =>
      obtain ⟨ns, rfl, hl, hn⟩ := hv
      rw [List.filter_eq_self.mpr (fun _ _ => rfl), List.length_range] at hl
      exact k _ H1 e1 ⟨ns, ⟨p, rfl, hp⟩, hl, hn⟩
    case m1 =>
      have hd1 := hd.ex e1
      have hroll : ∀ σ : L2.St, σ[0]? = some (some (.ref d)) → σ[1]? = some (some (ni f)) → EvP (tCall spRoll [] E0 (tCons (tVar 0) (tCons (tVar 1) tNil))) σ H1 (FP f ()) := fun σ h0 h1 => evp_cal (ea_cons (ev_var h0) (ea_cons (ev_var h1) ea_nil)) (spp_roll hd1 (by omega) (by omega))
      refine (evp_pickT (ks := [(), (), (), (), ()]) (fp_steady f) (ev_var rfl) hd1 (el_lstT (fp_steady f) (eat_cons (fp_steady f) (evp_n (n := 0) ev_c (by omega)) (eat_cons (fp_steady f) (evp_n (n := 1) ev_c (by omega))
        (eat_cons (fp_steady f) (evp_subN (p := fun x => x = f) (q := fun x => x = 1) (evp_n (ev_var rfl) rfl) (evp_n (n := 1) ev_c rfl) fun a b ha hb => by omega) (eat_cons (fp_steady f) (hroll _ rfl rfl) (eat_cons (fp_steady f) (hroll _ rfl rfl) eat_nil))))) (by decide)) (by decide) (by decide)).imp fun v H2 _ h => ?_
      obtain ⟨_, _, h⟩ := h
      exact h
def spDrI : Sp := fun vs H Q _ => ∃ (d ga : Addr) (f : Nat) (gs : List G), vs = [.ref d, ni f, .ref ga] ∧ Dice H d ∧ IsF f ∧ GatesAt H ga gs ∧ OkGs gs ∧ RetP (fun v H => ∃ a ns, v = .ref a ∧ Nums H a f ns gs) H Q
theorem spp_drI {d ga : Addr} {f : Nat} {gs : List G} {H : Hp} (hd : Dice H d) (hf : IsF f) (hg : GatesAt H ga gs) (ok : OkGs gs) : SpP spDrI [.ref d, ni f, .ref ga] H (fun v H => ∃ a ns, v = .ref a ∧ Nums H a f ns gs) := fun H1 e Q q E => ⟨d, ga, f, gs, rfl, hd.ex e, hf, hg.ex e, ok, q⟩
/-- [g for g in gates if g[0] == word], its length -/
theorem len_filter {σ : L2.St} {H : Hp} {gs : List G} {p : G → Bool} {tl te : TE} {t : TT} {j : Nat} {vs : List Nat} {ga : Addr} {xs : List V} (h2 : xs.length = gs.length) (h : Ev tl σ H (.ref ga)) (hx : SqT K H ga xs) (hz : xs.length ≤ 40000) (hw : ∀ x, wipe ((wipe σ vs).set j (some x)) vs = wipe σ vs)
    (ht : ∀ (i : Nat) (x : V) H1, Ex H H1 → xs[i]? = some x → EvT t ((wipe σ vs).set j (some x)) H1 (p (gs.getD i (.con 0)))) (he : ∀ (i : Nat) (x : V) H1, Ex H H1 → xs[i]? = some x → Ev te ((wipe σ vs).set j (some x)) H1 x) :
    Ev (tCB (rLenS K) (tCons (tLc (iTup K tl) (gName j) t te vs) tNil)) σ H (ni (gs.countP p)) := by
  refine ev_is (ev_lenN (el_lcT (fun i => p (gs.getD i (.con 0))) (fun i => xs.getD i .non) h hx hz hw ht fun i x H1 e1 hi _ => ?_)) ?_
  · rw [getD_of hi]
    exact he i x H1 e1 hi
  · unfold given
    rw [List.length_map, h2, countP_range gs (.con 0) p]
    rfl
theorem cal_law_dr_inputs (G0 : Glo mg) (c__law_dr_numbers : Cal P w K mg base 3 "_law_dr_numbers" ["_law_dice_here", "_law_field", "_law_many"] spDrN)
    (F : FunX K mg "_law_dr_inputs" "_law_dr_inputs" "_law_dr_inputs" s_law_dr_inputs ["_law_dice_here", "_law_field", "_law_gates"]) : Cal P w K mg base 4 "_law_dr_inputs" ["_law_dice_here", "_law_field", "_law_gates"] spDrI := by
  have G := G0
  refine Cal.mk' F sc_law_dr_inputs (fun vs H Q E h => ?_) (fun f cdv A outer s H vs Q E hr h => ?_)
  · obtain ⟨d, ga, f, gs, rfl, _⟩ := h
    rfl
  · obtain ⟨d, ga, f, gs, rfl, hd, hf, hg, ok, k⟩ := h
    refine ⟨_, (pss_one (ps_ret (pe_cal c__law_dr_numbers (hr.mono (by decide)) (by rfl) (pa_cons (pv 0) (pa_cons (pv 1) (pa_cons (pe_callB call_len_seq (by rfl) G.len PySem.boot_len (pa_cons (pe_lc (own := [("_law_gate", 3)]) rfl sc_law_dr_inputs.nd (pi_tup (pv 2)) (blkOk_by (own := [("_law_gate", 3)]) (N := N_law_dr_inputs) (sc := defScope s_law_dr_inputs) (by decide +kernel)) (fun _ _ _ _ _ => (pg_name (i := 3) sc_law_dr_inputs.nd rfl (Or.inl rfl) (Or.inr rfl))) (fun _ _ _ _ _ => (pts_one (pt_cmpR op_eq (pe_ix (ixTK K rfl) (pv 3) pe_int (fun _ _ => rfl)) pe_str (nomark _)))) (fun _ _ _ _ _ => (pv 3))) pa_nil)) pa_nil)))))), ?_⟩
    obtain ⟨vs, h1, h2, h3⟩ := hg.at_
    have hT := SqT.of (K := K) h1
    have l60 := ok.le
    have l8 : inN gs ≤ 8 := ok.inp
    refine s_retP (evp_cal (ea_cons (ev_var rfl) (ea_cons (ev_var rfl) (ea_cons (len_filter (K := K) (p := Ec.G.isInp) h2 (ev_var rfl) hT (by omega) (fun _ => rfl) (fun i x H1 e1 hx => ?m1) fun i x H1 e1 hx => ev_var rfl) ea_nil))) (spp_drN (many := inN gs) hd hf (by omega))) fun v H1 e1 hv => ?m2
    case m1 =>
      obtain ⟨q, g, rfl, hgi, hq⟩ := h3 i x hx
      refine et_is (et_test (ev_op (ev_op (ev_var rfl) ev_c (rv_ixT (SqT.of (e1 _ _ hq)) (at_word g))) ev_c (rv_eq rfl))) ?_
      rw [getD_of hgi, dec_word]
      exact w_inp g
    case m2 =>
      obtain ⟨ns, ⟨p, rfl, hp⟩, hl, hn⟩ := hv
      exact k _ H1 e1 ⟨p, ns, rfl, hf, hp, hl, hn⟩
end
end Ec
set_option maxRecDepth 100000
set_option maxHeartbeats 4000000
/-! the law's own circuits: levels, inputs, meaning -/
namespace Ec
open PySem PySem.Spec PyProof.Rows L2 Evl SlX
/-! ### inputs by their places -/
def idxTo (gs : List G) (i : Nat) : List Nat := (List.range i).filter (inAt gs)
theorem idxTo_succ (gs : List G) (i : Nat) : idxTo gs (i + 1) = idxTo gs i ++ if inAt gs i then [i] else [] := by
  unfold idxTo
  rw [List.range_succ, List.filter_append, List.filter_cons]
  cases inAt gs i <;> rfl
theorem inAt_of {gs : List G} {i : Nat} {g : G} (h : gs[i]? = some g) : inAt gs i = g.isInp := by unfold inAt; rw [getD_of h]
theorem idxTo_len (gs : List G) : ∀ i, i ≤ gs.length → (idxTo gs i).length = inN (gs.take i) := by
  intro i
  induction i with
  | zero => exact fun _ => rfl
  | succ i ih =>
    intro h
    have hg := List.getElem?_eq_getElem (l := gs) (i := i) (by omega)
    rw [idxTo_succ, List.length_append, ih (by omega), take_snoc hg, inN_snoc, inAt_of hg]
    cases (gs[i]'(by omega)).isInp <;> rfl
theorem idxTo_at {gs : List G} {i : Nat} {g : G} (h : gs[i]? = some g) (hg : g.isInp = true) : ∀ m, i < m → (idxTo gs m)[inN (gs.take i)]? = some i := by
  intro m
  have hi := (List.getElem?_eq_some_iff.mp h).1
  have hl := idxTo_len gs i (by omega)
  induction m with
  | zero => exact fun z => absurd z (Nat.not_lt_zero i)
  | succ m ih =>
    intro hm
    rw [idxTo_succ]
    by_cases e : i = m
    · rw [← e, inAt_of h, hg, if_pos rfl, List.getElem?_append_right (by omega), hl, Nat.sub_self]
      rfl
    · have ih := ih (by omega)
      rw [List.getElem?_append_left (List.getElem?_eq_some_iff.mp ih).1]
      exact ih
/-! ### the dict of the inputs -/
def kvO (q : Nat × Nat) : L2.Key × V := (.inl (q.1 : Int), ni q.2)
theorem valV_merge (k : L2.Key) : ∀ (more acc : List (L2.Key × V)), (more.map (·.1)).Nodup → valV (mergeK acc more) k = match valV more k with | some v => some v | none => valV acc k
  | [], acc, _ => rfl
  | p :: more, acc, h => by
    have hn := List.nodup_cons.mp (show (p.1 :: more.map (·.1)).Nodup from h)
    have ih := valV_merge k more (putK acc p.1 p.2) hn.2
    show valV (mergeK (putK acc p.1 p.2) more) k = _
    rw [ih, valV_put]
    by_cases e : k = p.1
    · have hm : valV more k = none := by
        cases hv : valV more k with
        | none => rfl
        | some v =>
          have ha := valV_any k more
          rw [hv] at ha
          obtain ⟨q, hq, hqk⟩ := List.any_eq_true.mp ha
          exact absurd (List.mem_map.mpr ⟨q, hq, (of_decide_eq_true hqk).trans e⟩) hn.1
      rw [hm, valV_pos e.symm]
      show (if k = p.1 then some p.2 else valV acc k) = some p.2
      rw [if_pos e]
    · rw [valV_neg (fun z => e z.symm)]
      cases valV more k with
      | none =>
        show (if k = p.1 then some p.2 else valV acc k) = valV acc k
        rw [if_neg e]
      | some v => rfl
theorem zip_sub : ∀ (is ns : List Nat), ((is.zip ns).map fun q : Nat × Nat => q.1).Sublist is
  | [], ns => by
    rw [List.zip_nil_left]
    exact List.Sublist.slnil
  | i :: is, [] => by
    rw [List.zip_nil_right]
    exact List.nil_sublist _
  | i :: is, n :: ns => (zip_sub is ns).cons_cons i
theorem zip_keys : ∀ (is ns : List Nat), is.Nodup → (((is.zip ns).map kvO).map (·.1)).Nodup := fun is ns h => by
  have h1 : (((is.zip ns).map kvO).map (·.1)) = ((is.zip ns).map fun q : Nat × Nat => q.1).map fun i : Nat => (.inl (i : Int) : L2.Key) := by
    rw [List.map_map, List.map_map]
    rfl
  rw [h1]
  exact List.pairwise_map.mpr ((h.sublist (zip_sub is ns)).imp fun hab z => hab (by
    have z := Sum.inl.inj z
    omega))
theorem idx_nodup (gs : List G) : (idx gs).Nodup := (List.nodup_range (n := gs.length)).sublist List.filter_sublist
theorem dict_at {gs : List G} {ns : List Nat} {i : Nat} {g : G} (hl : ns.length = inN gs) (h : gs[i]? = some g) (hg : g.isInp = true) : valV (mergeK [] (((idx gs).zip ns).map kvO)) (.inl (i : Int)) = some (ni (ns.getD (inN (gs.take i)) 0)) := by
  rw [valV_merge _ _ _ (zip_keys _ _ (idx_nodup gs))]
  have hc := inN_lt h hg
  have h1 := idxTo_at h hg gs.length (List.getElem?_eq_some_iff.mp h).1
  have h2 : ns[inN (gs.take i)]? = some (ns.getD (inN (gs.take i)) 0) := at_getD 0 (by omega)
  have hm : (i, ns.getD (inN (gs.take i)) 0) ∈ (idx gs).zip ns := List.mem_iff_getElem?.mpr ⟨inN (gs.take i), by
    rw [List.getElem?_zip_eq_some]
    exact ⟨h1, h2⟩⟩
  have hv := val_nodup (zip_keys (idx gs) ns (idx_nodup gs)) (kvO (i, ns.getD (inN (gs.take i)) 0)) (List.mem_map.mpr ⟨_, hm, rfl⟩)
  have hv : valV (((idx gs).zip ns).map kvO) (.inl (i : Int)) = some (ni (ns.getD (inN (gs.take i)) 0)) := hv
  rw [hv]
section
variable {P : Program} {w : World} {K : PySem.W.Frag} {mg : Str → Option Value} {base : Heap}
abbrev s_law_ci_levels : Stmt := top 54
abbrev N_law_ci_levels : List Str := ["_law_gates", "_law_found", "_law_gate"]
theorem sc_law_ci_levels : FnScope N_law_ci_levels ["_law_gates"] (defScope s_law_ci_levels) := ⟨rfl, rfl, rfl, by decide +kernel, rfl, by decide +kernel, by decide +kernel⟩
abbrev s_law_ci_inputs : Stmt := top 56
abbrev N_law_ci_inputs : List Str := ["_law_gates", "_law_at", "_law_gate"]
theorem sc_law_ci_inputs : FnScope N_law_ci_inputs ["_law_gates"] (defScope s_law_ci_inputs) := ⟨rfl, rfl, rfl, by decide +kernel, rfl, by decide +kernel, by decide +kernel⟩
def G.isIC : G → Bool | .inp _ => true | .con _ => true | _ => false
theorem in_words (g : G) : inV (.str g.word) [.str "input", .str "constant"] = g.isIC := by
  cases g with
  | inp h => exact (by decide +kernel : inV (.str "input") [.str "input", .str "constant"] = true)
  | con h => exact (by decide +kernel : inV (.str "constant") [.str "input", .str "constant"] = true)
  | sum i j => exact (by decide +kernel : inV (.str "sum") [.str "input", .str "constant"] = false)
  | mul i j => exact (by decide +kernel : inV (.str "times") [.str "input", .str "constant"] = false)
  | pro i j => exact (by decide +kernel : inV (.str "product") [.str "input", .str "constant"] = false)
theorem ev_w {σ : L2.St} {H : Hp} {te : TE} {g : G} {q : Addr} (hv : Ev te σ H (.ref q)) (hg : SqT K H q g.vs) : Ev (tOp (rIxT K) te (tC (.int 0))) σ H (.str g.word) := ev_op hv ev_c (rv_ixT hg (at_word g))
theorem et_w {σ : L2.St} {H : Hp} {te : TE} {g : G} {q : Addr} {z : Str} {b : Bool} (hv : Ev te σ H (.ref q)) (hg : SqT K H q g.vs) (e : decide (g.word = z) = b) : EvT (tTest (tOp rEq (tOp (rIxT K) te (tC (.int 0))) (tC (.str z)))) σ H b := et_is (et_test (ev_op (ev_w hv hg) ev_c (rv_eq rfl))) ((dec_word g z).trans e)
theorem cal_law_ci_levels (G0 : Glo mg) (F : FunX K mg "_law_ci_levels" "_law_ci_levels" "_law_ci_levels" s_law_ci_levels ["_law_gates"]) : Cal P w K mg base 1 "_law_ci_levels" ["_law_gates"] spLevels := by
  have G := G0
  refine Cal.mk' F sc_law_ci_levels (fun vs H Q E h => ?_) (fun f cdv A outer s H vs Q E hr h => ?_)
  · obtain ⟨a, gs, rfl, _⟩ := h
    rfl
  · obtain ⟨a, gs, rfl, hg, ok, k⟩ := h
    refine ⟨_, (pss_cons (ps_set (i := 1) sc_law_ci_levels.nd rfl (Or.inl rfl) (pe_lst pa_nil))
      (pss_cons (ps_for PassesOwn.never rfl (pi_tup (pv 0)) (pg_name (i := 2) sc_law_ci_levels.nd rfl (Or.inl rfl) (Or.inr rfl)) (pss_one (ps_if (pt_cmpR op_in_seq (pe_ix ix_tup (pv 2) pe_int (fun _ _ => rfl)) (pe_tup (pa_cons pe_str (pa_cons pe_str pa_nil))) (by rfl)) (pss_one (ps_expr (pe_bm PySem.F.plainAttrs_list PySem.F.slot_list_append PySem.F.type_list_append mt_append (pv 1) (pa_cons pe_int pa_nil)))) (pss_one (ps_if (pt_cmpR op_eq (pe_ix ix_tup (pv 2) pe_int (fun _ _ => rfl)) pe_str (nomark _)) (pss_one (ps_expr (pe_bm PySem.F.plainAttrs_list PySem.F.slot_list_append PySem.F.type_list_append mt_append (pv 1) (pa_cons (pe_ix ix_list (pv 1) (pe_ix ix_tup (pv 2) pe_int (fun _ _ => rfl)) (fun _ _ => rfl)) pa_nil)))) (pss_one (ps_expr (pe_bm PySem.F.plainAttrs_list PySem.F.slot_list_append PySem.F.type_list_append mt_append (pv 1) (pa_cons (pe_op op_add (pe_callB (call_max2 rfl) (by rfl) G.max (by decide +kernel) (pa_cons (pe_ix ix_list (pv 1) (pe_ix ix_tup (pv 2) pe_int (fun _ _ => rfl)) (fun _ _ => rfl)) (pa_cons (pe_ix ix_list (pv 1) (pe_ix ix_tup (pv 2) pe_int (fun _ _ => rfl)) (fun _ _ => rfl)) pa_nil))) (pe_callTy call_int1 (by rfl) G.int (by decide +kernel) (pa_cons (pe_cmpR op_eq (pe_ix ix_tup (pv 2) pe_int (fun _ _ => rfl)) pe_str (nomark _)) pa_nil))) pa_nil)))))))))
      (pss_one (ps_ret (pv 1))))), ?_⟩
    obtain ⟨vs, h1, h2, h3⟩ := hg.at_
    have hT := SqT.of (K := K) h1
    refine q_asgL (el_lst ea_nil (by decide)) fun l H1 hl e1 hl1 => ?_
    refine q_forT (ev_var rfl) (ex_t e1 hT) (fun i σ' H' => ∃ o, σ' = [some (.ref a), some (.ref l), o] ∧ Ex H H' ∧ H' l = some (.lst (nis (lvs (gs.take i))))) (fun H2 e2 => ⟨none, rfl, e1.trans e2, e2 _ _ hl1⟩) (fun i σ' H' _ p => by
      obtain ⟨o, rfl, e, _⟩ := p
      exact ex_t e hT) (fun i x σ' H' hx p => ?m1) (fun σ' H' p => ?m2)
    case m2 =>
      obtain ⟨o, rfl, e, p⟩ := p
      rw [h2, List.take_length] at p
      exact s_ret (ev_var rfl) fun H2 e2 => k l H2 hl (e.trans e2) (e2 _ _ p)
    case m1 =>
      obtain ⟨o, rfl, e, p⟩ := p
      obtain ⟨q, g, rfl, hgi, hq⟩ := h3 i x hx
      have hq := e _ _ hq
      have hgT := SqT.of (K := K) hq
      have okg := ok.ok i g hgi
      have hi : i < gs.length := (List.getElem?_eq_some_iff.mp hgi).1
      have hlen := lvs_len_take gs i (by omega)
      have hz : (nis (lvs (gs.take i))).length < 100000 := by rw [nis_len, hlen]; have := ok.le; omega
      have fin : ∀ (y : V) H2, y = ni (lvl1 (lvs (gs.take i)) g) → Ex H' H2 → ∃ o, [some (V.ref a), some (V.ref l), some (V.ref q)] = [some (.ref a), some (.ref l), o] ∧ Ex H (upd H2 l (.lst (nis (lvs (gs.take i)) ++ [y]))) ∧ upd H2 l (.lst (nis (lvs (gs.take i)) ++ [y])) l = some (.lst (nis (lvs (gs.take (i + 1))))) := fun y H2 hy e2 => by
        refine ⟨_, rfl, Ex.mut (e.trans e2) hl, ?_⟩
        rw [upd_same, hy, nis_snoc, lvs_take hgi]
      have hin : EvT (tTest (tOp (rIn K false) (tOp (rIxT K) (tVar 2) (tC (.int 0))) (tTup (tCons (tC (.str "input")) (tCons (tC (.str "constant")) tNil))))) [some (V.ref a), some (V.ref l), some (V.ref q)] H' g.isIC :=
        et_is (et_test (ev_inU (ev_w (ev_var rfl) hgT) (eu_tup (ea_cons ev_c (ea_cons ev_c ea_nil)) (by decide)) rfl rfl)) (in_words g)
      cases g with
      | inp h =>
        refine s_if hin (fun _ H2 e2 => ?_) (fun h => nomatch h)
        exact s_app (e2 _ _ p) (ev_var rfl) ev_c hz fun H3 e3 => fin _ H3 rfl (e2.trans e3)
      | con h =>
        refine s_if hin (fun _ H2 e2 => ?_) (fun h => nomatch h)
        exact s_app (e2 _ _ p) (ev_var rfl) ev_c hz fun H3 e3 => fin _ H3 rfl (e2.trans e3)
      | mul i1 c =>
        refine s_if hin (fun h => nomatch h) (fun _ H2 e2 => ?_)
        have hgT := ex_t e2 hgT
        refine s_if (et_w (ev_var rfl) hgT w_times_times) (fun _ H3 e3 => ?_) (fun h => nomatch h)
        have hgT := ex_t e3 hgT
        have p := e3 _ _ (e2 _ _ p)
        exact s_app p (ev_var rfl) (ev_op (ev_var rfl) (ev_op (ev_var rfl) ev_c (rv_ixT hgT rfl)) (rv_ixL (sq_of p) (at_nis (by rw [hlen]; exact okg.1)))) hz fun H4 e4 => fin _ H4 rfl ((e2.trans e3).trans e4)
      | sum i1 j1 =>
        refine s_if hin (fun h => nomatch h) (fun _ H2 e2 => ?_)
        have hgT := ex_t e2 hgT
        refine s_if (et_w (ev_var rfl) hgT w_sum_times) (fun h => nomatch h) (fun _ H3 e3 => ?_)
        have hgT := ex_t e3 hgT
        have p := e3 _ _ (e2 _ _ p)
        exact s_app p (ev_var rfl) (ev_op (ev_maxN (ev_op (ev_var rfl) (ev_op (ev_var rfl) ev_c (rv_ixT hgT rfl)) (rv_ixL (sq_of p) (at_nis (by rw [hlen]; exact okg.1)))) (ev_op (ev_var rfl) (ev_op (ev_var rfl) ev_c (rv_ixT hgT rfl)) (rv_ixL (sq_of p) (at_nis (by rw [hlen]; exact okg.2)))))
          (ev_intB (ev_is (ev_op (ev_w (ev_var rfl) hgT) ev_c (rv_eq rfl)) (congrArg V.bl ((dec_word _ _).trans w_sum_product)))) rv_I0) hz fun H4 e4 => fin _ H4 rfl ((e2.trans e3).trans e4)
      | pro i1 j1 =>
        refine s_if hin (fun h => nomatch h) (fun _ H2 e2 => ?_)
        have hgT := ex_t e2 hgT
        refine s_if (et_w (ev_var rfl) hgT w_product_times) (fun h => nomatch h) (fun _ H3 e3 => ?_)
        have hgT := ex_t e3 hgT
        have p := e3 _ _ (e2 _ _ p)
        exact s_app p (ev_var rfl) (ev_op (ev_maxN (ev_op (ev_var rfl) (ev_op (ev_var rfl) ev_c (rv_ixT hgT rfl)) (rv_ixL (sq_of p) (at_nis (by rw [hlen]; exact okg.1)))) (ev_op (ev_var rfl) (ev_op (ev_var rfl) ev_c (rv_ixT hgT rfl)) (rv_ixL (sq_of p) (at_nis (by rw [hlen]; exact okg.2)))))
          (ev_intB (ev_is (ev_op (ev_w (ev_var rfl) hgT) ev_c (rv_eq rfl)) (congrArg V.bl ((dec_word _ _).trans w_product_product)))) rv_I0) hz fun H4 e4 => fin _ H4 rfl ((e2.trans e3).trans e4)
def spIdx : Sp := fun vs H Q _ => ∃ (a : Addr) (gs : List G), vs = [.ref a] ∧ GatesAt H a gs ∧ gs.length ≤ 60 ∧ RetL (nis (idx gs)) H Q
theorem spl_idx {a : Addr} {gs : List G} {H : Hp} (h : GatesAt H a gs) (hl : gs.length ≤ 60) : SpL spIdx [.ref a] H (nis (idx gs)) := fun H1 e Q q E => ⟨a, gs, rfl, h.ex e, hl, q⟩
theorem cal_law_ci_inputs (G0 : Glo mg) (F : FunX K mg "_law_ci_inputs" "_law_ci_inputs" "_law_ci_inputs" s_law_ci_inputs ["_law_gates"]) : Cal P w K mg base 1 "_law_ci_inputs" ["_law_gates"] spIdx := by
  have G := G0
  refine Cal.mk' F sc_law_ci_inputs (fun vs H Q E h => ?_) (fun f cdv A outer s H vs Q E hr h => ?_)
  · obtain ⟨a, gs, rfl, _⟩ := h
    rfl
  · obtain ⟨a, gs, rfl, hg, l60, k⟩ := h
    refine ⟨_, (pss_one (ps_ret (pe_lc (own := [("_law_at", 1), ("_law_gate", 2)]) rfl sc_law_ci_inputs.nd (pi_enumT (by rfl) G.enumerate (pa_cons (pv 0) pa_nil)) (blkOk_by (own := [("_law_at", 1), ("_law_gate", 2)]) (N := N_law_ci_inputs) (sc := defScope s_law_ci_inputs) (by decide +kernel)) (fun _ _ _ _ _ => (pgTupK K 2 rfl rfl (pgs_cons (pg_name (i := 1) sc_law_ci_inputs.nd rfl (Or.inl rfl) (Or.inr rfl)) (pgs_cons (pg_name (i := 2) sc_law_ci_inputs.nd rfl (Or.inl rfl) (Or.inr rfl)) pgs_nil)) rfl)) (fun _ _ _ _ _ => (pts_one (pt_cmpR op_eq (pe_ix (ixTK K rfl) (pv 2) pe_int (fun _ _ => rfl)) pe_str (nomark _)))) (fun _ _ _ _ _ => (pv 1))))), ?_⟩
    obtain ⟨vs, h1, h2, h3⟩ := hg.at_
    have hT := SqT.of (K := K) h1
    refine s_retL (el_is (el_lcE (xs := vs) (inAt gs) ni (ea_cons (ev_var rfl) ea_nil) hT (by omega) (fun _ _ => rfl) (fun i x H1 e1 hx => ?m1) (fun i x H1 e1 hx _ => ev_var rfl)) ?m2) k
    case m1 =>
      obtain ⟨q, g, rfl, hgi, hq⟩ := h3 i x hx
      exact et_w (ev_var rfl) (SqT.of (e1 _ _ hq)) ((w_inp g).trans (inAt_of hgi).symm)
    case m2 =>
      rw [h2]
      rfl
end
end Ec
set_option maxRecDepth 100000
set_option maxHeartbeats 4000000
/-! the law's own circuits: meaning, told -/
namespace Ec
open PySem PySem.Spec PyProof.Rows L2 Evl SlX
/-- a new thing at p, told by R -/
def EvN (te : TE) (σ : L2.St) (H : Hp) (R : Addr → Hp → Prop) : Prop := ∀ H1, Ex H H1 → ∀ Q : VK, (∀ p H2, H1 p = none → Ex H1 H2 → R p H2 → Q (.ref p) H2) → te σ H1 Q
section
variable {K : PySem.W.Frag} {σ : L2.St} {H : Hp} {ta tb te : TE}
theorem paired_ix {α β : Type} {F F' : α → β → Prop} : ∀ {xs : List α} {ys : List β}, Paired F xs ys → (∀ a b, F a b → F' a b) → Paired F' xs ys := fun h k => by
  induction h with
  | nil => exact .nil
  | cons h _ ih => exact .cons (k _ _ h) ih
theorem paired_map {α β γ : Type} {F : α → γ → Prop} (g : β → γ) : ∀ {xs : List α} {ys : List β}, Paired (fun a b => F a (g b)) xs ys → Paired F xs (ys.map g) := fun h => by
  induction h with
  | nil => exact .nil
  | cons h _ ih => exact .cons h ih
theorem paired_unmap {α β γ : Type} {F : α → γ → Prop} (g : β → γ) : ∀ {ys : List β} {xs : List α}, Paired F xs (ys.map g) → Paired (fun a b => F a (g b)) xs ys
  | [], xs, h => by cases h; exact .nil
  | y :: ys, xs, h => by
    cases h with
    | cons h t => exact .cons h (paired_unmap g t)
theorem zip_nis : ∀ (is ns : List Nat), (nis is).zip (nis ns) = (is.zip ns).map fun q => (ni q.1, ni q.2)
  | [], ns => by rw [List.zip_nil_left]; rfl
  | i :: is, [] => rfl
  | i :: is, n :: ns => congrArg ((ni i, ni n) :: ·) (zip_nis is ns)
theorem en_zip {a : Addr} {xs ys : List V} (ha : EvL ta σ H xs) (hb : Ev tb σ H (.ref a)) (hy : SqT K H a ys) : EvN (Ez.tListZip K (tCons ta (tCons tb tNil))) σ H (fun p H2 => ∃ ts : List Addr, H2 p = some (.lst (ts.map V.ref)) ∧ Paired (fun (t : Addr) (q : V × V) => H2 t = some (.tup [q.1, q.2])) ts (xs.zip ys)) := fun H1 e Q q =>
  ha H1 e _ fun p H2 hp e2 h2 => hb H2 (e.trans e2) _ fun H3 e3 => ⟨p, a, xs, ys, rfl, sq_of (e3 _ _ h2), ex_t ((e.trans e2).trans e3) hy, fun H' l ts hE hl hl2 hp2 => q l H' (fresh_back (e2.trans e3) hl) ((e2.trans e3).trans hE) ⟨ts, hl2, hp2⟩⟩
def rDictP (K : PySem.W.Frag) : List V → Hp → VK → Prop := fun xs H Q => ∃ (a : Addr) (ps : List Addr) (kvs : List (L2.Key × V)), xs = [.ref a] ∧ SqL K H a (ps.map V.ref) ∧ Paired (fun p kv => SqT K H p [kV kv.1, kv.2]) ps kvs ∧ ∀ p, H p = none → Q (.ref p) (upd H p (.dK (mergeK [] kvs)))
theorem en_dict {is ns : List Nat} (h : EvN te σ H (fun p H2 => ∃ ts : List Addr, H2 p = some (.lst (ts.map V.ref)) ∧ Paired (fun (t : Addr) (q : V × V) => H2 t = some (.tup [q.1, q.2])) ts ((nis is).zip (nis ns)))) :
    EvN (tCB (rDictP K) (tCons te tNil)) σ H (fun p H2 => H2 p = some (.dK (mergeK [] ((is.zip ns).map kvO)))) := fun H1 e Q q =>
  h H1 e _ fun p H2 hp e2 hts => by
    obtain ⟨ts, h1, h2⟩ := hts
    rw [zip_nis] at h2
    have h3 := paired_unmap (fun q : Nat × Nat => (ni q.1, ni q.2)) h2
    exact ⟨p, ts, (is.zip ns).map kvO, rfl, sq_of h1, paired_map kvO (paired_ix h3 fun t q h => SqT.of h), fun l hl => q l _ (fresh_back e2 hl) (e2.trans (Ex.new hl)) upd_same⟩
theorem q_parLN {D : Ends} {tz : TS} {xs : List V} {R : Addr → Hp → Prop} {i j : Nat} (ha : EvL ta σ H xs) (hb : EvN tb σ H R)
    (k : ∀ p q H1, H p = none → H q = none → p ≠ q → Ex H H1 → H1 p = some (.lst xs) → R q H1 → tz D ((σ.set i (some (.ref p))).set j (some (.ref q))) H1) : tSeq (tPar i j (tCons ta (tCons tb tNil))) tz D σ H :=
  ha H (Ex.refl H) _ fun p H1 hp e1 h1 => hb H1 e1 _ fun q H2 hq e2 h2 => ⟨_, _, rfl, k p q H2 hp (fresh_back e1 hq) (ne_of_none h1 hq) (e1.trans e2) (e2 _ _ h1) h2⟩
theorem ev_dget {a : Addr} {kvs : List (L2.Key × V)} {i : Nat} {v : V} (ha : Ev ta σ H (.ref a)) (hb : Ev tb σ H (ni i)) (hd : H a = some (.dK kvs)) (hv : valV kvs (.inl (i : Int)) = some v) : Ev (tDGet ta tb) σ H v := fun H1 e Q q =>
  ha H1 e _ fun H2 e2 => hb H2 (e.trans e2) _ fun H3 e3 => ⟨a, v, rfl, (by
    have h := DGet.k (k := .inl (i : Int)) (((e.trans e2).trans e3) _ _ hd)
    rw [hv] at h
    exact h), q H3 (e2.trans e3)⟩
end
section
variable {P : Program} {w : World} {K : PySem.W.Frag} {mg : Str → Option Value} {base : Heap}
abbrev s_law_ci_meaning : Stmt := top 57
abbrev N_law_ci_meaning : List Str := ["_law_field", "_law_gates", "_law_numbers", "_law_found", "_law_given", "_law_at", "_law_gate"]
theorem sc_law_ci_meaning : FnScope N_law_ci_meaning ["_law_field", "_law_gates", "_law_numbers"] (defScope s_law_ci_meaning) := ⟨rfl, rfl, rfl, by decide +kernel, rfl, by decide +kernel, by decide +kernel⟩
abbrev s_law_ci_told : Stmt := top 58
abbrev N_law_ci_told : List Str := ["_law_field", "_law_gates", "_law_outputs", "_law_numbers", "_law_found", "_law_gate", "_law_houses"]
theorem sc_law_ci_told : FnScope N_law_ci_told ["_law_field", "_law_gates", "_law_outputs", "_law_numbers"] (defScope s_law_ci_told) := ⟨rfl, rfl, rfl, by decide +kernel, rfl, by decide +kernel, by decide +kernel⟩
def spCiM : Sp := fun vs H Q _ => ∃ (ga a : Addr) (f : Nat) (gs : List G) (ns : List Nat), vs = [ni f, .ref ga, .ref a] ∧ GatesAt H ga gs ∧ OkGs gs ∧ Nums H a f ns gs ∧ RetL (nis (means f ns gs)) H Q
theorem spl_ciM {ga a : Addr} {f : Nat} {gs : List G} {ns : List Nat} {H : Hp} (hg : GatesAt H ga gs) (ok : OkGs gs) (hn : Nums H a f ns gs) : SpL spCiM [ni f, .ref ga, .ref a] H (nis (means f ns gs)) := fun H1 e Q q E => ⟨ga, a, f, gs, ns, rfl, hg.ex e, ok, hn.ex e, q⟩
theorem cal_law_ci_meaning (G0 : Glo mg) (c__law_ci_inputs : Cal P w K mg base 1 "_law_ci_inputs" ["_law_gates"] spIdx) (F : FunX K mg "_law_ci_meaning" "_law_ci_meaning" "_law_ci_meaning" s_law_ci_meaning ["_law_field", "_law_gates", "_law_numbers"]) :
    Cal P w K mg base 2 "_law_ci_meaning" ["_law_field", "_law_gates", "_law_numbers"] spCiM := by
  have G := G0
  refine Cal.mk' F sc_law_ci_meaning (fun vs H Q E h => ?_) (fun f cdv A outer s H vs Q E hr h => ?_)
  · obtain ⟨ga, a, f, gs, ns, rfl, _⟩ := h
    rfl
  · obtain ⟨ga, a, f, gs, ns, rfl, hg, ok, hnn, k⟩ := h
    refine ⟨_, (pss_cons (ps_par (i := 3) (j := 4) (by rfl) sc_law_ci_meaning.nd rfl rfl (by decide) rfl rfl (pa_cons (pe_lst pa_nil) (pa_cons (pe_callTy (call_dictP rfl) (by rfl) G.dict (by decide +kernel) (pa_cons (Ez.pe_listZip rfl (by rfl) G.list (by rfl) G.zip (pa_cons (pe_cal c__law_ci_inputs (hr.mono (by decide)) (by rfl) (pa_cons (pv 1) pa_nil)) (pa_cons (pv 2) pa_nil))) pa_nil)) pa_nil)) (by rfl))
      (pss_cons (ps_for PassesOwn.never rfl (pi_enumT (by rfl) G.enumerate (pa_cons (pv 1) pa_nil)) (pgTupK K 2 rfl rfl (pgs_cons (pg_name (i := 5) sc_law_ci_meaning.nd rfl (Or.inl rfl) (Or.inr rfl)) (pgs_cons (pg_name (i := 6) sc_law_ci_meaning.nd rfl (Or.inl rfl) (Or.inr rfl)) pgs_nil)) rfl) (pss_one (ps_if (pt_cmpR op_eq (pe_ix ix_tup (pv 6) pe_int (fun _ _ => rfl)) pe_str (nomark _)) (pss_one (ps_expr (pe_bm PySem.F.plainAttrs_list PySem.F.slot_list_append PySem.F.type_list_append mt_append (pv 3) (pa_cons (pe_dget (hu_of hr) (pv 4) (pv 5) (fun _ _ => rfl)) pa_nil)))) (pss_one (ps_if (pt_cmpR op_eq (pe_ix ix_tup (pv 6) pe_int (fun _ _ => rfl)) pe_str (nomark _)) (pss_one (ps_expr (pe_bm PySem.F.plainAttrs_list PySem.F.slot_list_append PySem.F.type_list_append mt_append (pv 3) (pa_cons (pe_op op_mod (pe_callTy call_int1 (by rfl) G.int (by decide +kernel) (pa_cons (pe_ix ix_tup (pv 6) pe_int (fun _ _ => rfl)) pa_nil)) (pv 0)) pa_nil)))) (pss_one (ps_if (pt_cmpR op_eq (pe_ix ix_tup (pv 6) pe_int (fun _ _ => rfl)) pe_str (nomark _)) (pss_one (ps_expr (pe_bm PySem.F.plainAttrs_list PySem.F.slot_list_append PySem.F.type_list_append mt_append (pv 3) (pa_cons (pe_op op_mod (pe_callTy call_int1 (by rfl) G.int (by decide +kernel) (pa_cons (pe_op op_add (pe_ix ix_list (pv 3) (pe_ix ix_tup (pv 6) pe_int (fun _ _ => rfl)) (fun _ _ => rfl)) (pe_ix ix_list (pv 3) (pe_ix ix_tup (pv 6) pe_int (fun _ _ => rfl)) (fun _ _ => rfl))) pa_nil)) (pv 0)) pa_nil)))) (pss_one (ps_if (pt_cmpR op_eq (pe_ix ix_tup (pv 6) pe_int (fun _ _ => rfl)) pe_str (nomark _)) (pss_one (ps_expr (pe_bm PySem.F.plainAttrs_list PySem.F.slot_list_append PySem.F.type_list_append mt_append (pv 3) (pa_cons (pe_op op_mod (pe_callTy call_int1 (by rfl) G.int (by decide +kernel) (pa_cons (pe_op op_mul (pe_ix ix_list (pv 3) (pe_ix ix_tup (pv 6) pe_int (fun _ _ => rfl)) (fun _ _ => rfl)) (pe_ix ix_tup (pv 6) pe_int (fun _ _ => rfl))) pa_nil)) (pv 0)) pa_nil)))) (pss_one (ps_expr (pe_bm PySem.F.plainAttrs_list PySem.F.slot_list_append PySem.F.type_list_append mt_append (pv 3) (pa_cons (pe_op op_mod (pe_callTy call_int1 (by rfl) G.int (by decide +kernel) (pa_cons (pe_op op_mul (pe_ix ix_list (pv 3) (pe_ix ix_tup (pv 6) pe_int (fun _ _ => rfl)) (fun _ _ => rfl)) (pe_ix ix_list (pv 3) (pe_ix ix_tup (pv 6) pe_int (fun _ _ => rfl)) (fun _ _ => rfl))) pa_nil)) (pv 0)) pa_nil)))))))))))))
      (pss_one (ps_ret (pv 3))))), ?_⟩
    obtain ⟨vs, h1, h2, h3⟩ := hg.at_
    have hT := SqT.of (K := K) h1
    have haT := SqT.of (K := K) hnn.at_
    have hln := hnn.len
    have hn := hnn.lt
    have f1 := hnn.fld.lo
    have f2 := hnn.fld.hi
    have l60 := ok.le
    have hf0 : (0 : Int) < (f : Int) := by omega
    refine q_parLN (el_lst ea_nil (by decide)) (en_dict (K := K) (is := idx gs) (ns := ns) (en_zip (el_cal (ea_cons (ev_var rfl) ea_nil) (spl_idx hg l60)) (ev_var rfl) haT)) fun l b H1 hl hb hne e1 hl1 hb1 => ?_
    refine q_forE (ea_cons (ev_var rfl) ea_nil) (ex_t e1 hT) (fun i σ' H' => ∃ o1 o2, σ' = [some (ni f), some (.ref ga), some (.ref a), some (.ref l), some (.ref b), o1, o2] ∧ Ex H H' ∧ H' l = some (.lst (nis (means f ns (gs.take i)))) ∧ H' b = some (.dK (mergeK [] (((idx gs).zip ns).map kvO))))
      (fun H2 e2 => ⟨none, none, rfl, e1.trans e2, e2 _ _ hl1, e2 _ _ hb1⟩) (fun i σ' H' _ p => by
        obtain ⟨o1, o2, rfl, e, _⟩ := p
        exact ex_t e hT) (fun i x σ' H' H2 hx p e2 => ?m1) (fun σ' H' p => ?m2)
    case m2 =>
      obtain ⟨o1, o2, rfl, e, p, _⟩ := p
      rw [h2, List.take_length] at p
      exact s_ret (ev_var rfl) fun H2 e2 => k l H2 hl (e.trans e2) (e2 _ _ p)
    case m1 =>
      obtain ⟨o1, o2, rfl, e, p, pb⟩ := p
      obtain ⟨q, g, rfl, hgi, hq⟩ := h3 i x hx
      have e := e.trans e2
      have p := e2 _ _ p
      have pb := e2 _ _ pb
      have hq := e _ _ hq
      have hgT := SqT.of (K := K) hq
      have okg := ok.ok i g hgi
      have hi : i < gs.length := (List.getElem?_eq_some_iff.mp hgi).1
      have hlen := means_len_take f ns gs i (by omega)
      have hlt := getD_lt (by omega) (means_lt gs (by omega) hn i (by omega))
      have hz : (nis (means f ns (gs.take i))).length < 100000 := by rw [nis_len, hlen]; omega
      have fin : ∀ (y : V) H3, y = ni (mval f ns (means f ns (gs.take i)) (inN (gs.take i)) g) → Ex H2 H3 → ∃ o1 o2, [some (ni f), some (V.ref ga), some (V.ref a), some (V.ref l), some (V.ref b), some (ni i), some (V.ref q)] = [some (ni f), some (.ref ga), some (.ref a), some (.ref l), some (.ref b), o1, o2] ∧ Ex H (upd H3 l (.lst (nis (means f ns (gs.take i)) ++ [y]))) ∧
          upd H3 l (.lst (nis (means f ns (gs.take i)) ++ [y])) l = some (.lst (nis (means f ns (gs.take (i + 1))))) ∧ upd H3 l (.lst (nis (means f ns (gs.take i)) ++ [y])) b = some (.dK (mergeK [] (((idx gs).zip ns).map kvO))) := fun y H3 hy e3 => by
        refine ⟨_, _, rfl, Ex.mut (e.trans e3) hl, ?_, ?_⟩
        · rw [upd_same, hy, nis_snoc, means_take hgi]
        · rw [upd_ne (Ne.symm hne)]
          exact e3 _ _ pb
      cases g with
      | inp h =>
        refine s_if (et_w (ev_var rfl) hgT w_input_input) (fun _ H3 e3 => ?_) (fun h => nomatch h)
        exact s_app (e3 _ _ p) (ev_var rfl) (ev_dget (ev_var rfl) (ev_var rfl) (e3 _ _ pb) (dict_at hln hgi rfl)) hz fun H4 e4 => fin _ H4 rfl (e3.trans e4)
      | con h =>
        refine s_if (et_w (ev_var rfl) hgT w_constant_input) (fun h => nomatch h) (fun _ H3 e3 => ?_)
        refine s_if (et_w (ev_var rfl) (ex_t e3 hgT) w_constant_constant) (fun _ H4 e4 => ?_) (fun h => nomatch h)
        have e34 := e3.trans e4
        have hgT := ex_t e34 hgT
        exact s_app (e34 _ _ p) (ev_var rfl) (ev_op (ev_intI (ev_op (ev_var rfl) ev_c (rv_ixT hgT rfl))) (ev_var rfl) (rv_I hf0)) hz fun H5 e5 => fin _ H5 rfl (e34.trans e5)
      | sum i1 j1 =>
        refine s_if (et_w (ev_var rfl) hgT w_sum_input) (fun h => nomatch h) (fun _ H3 e3 => ?_)
        refine s_if (et_w (ev_var rfl) (ex_t e3 hgT) w_sum_constant) (fun h => nomatch h) (fun _ H4 e4 => ?_)
        refine s_if (et_w (ev_var rfl) (ex_t (e3.trans e4) hgT) w_sum_sum) (fun _ H5 e5 => ?_) (fun h => nomatch h)
        have e35 := (e3.trans e4).trans e5
        have hgT := ex_t e35 hgT
        have p := e35 _ _ p
        have pl := sq_of (K := K) p
        exact s_app p (ev_var rfl) (ev_op (ev_intI (ev_op (ev_op (ev_var rfl) (ev_op (ev_var rfl) ev_c (rv_ixT hgT rfl)) (rv_ixL pl (at_nis (by rw [hlen]; exact okg.1)))) (ev_op (ev_var rfl) (ev_op (ev_var rfl) ev_c (rv_ixT hgT rfl)) (rv_ixL pl (at_nis (by rw [hlen]; exact okg.2)))) rv_I0)) (ev_var rfl) (rv_I hf0)) hz fun H6 e6 => fin _ H6 rfl (e35.trans e6)
      | mul i1 d =>
        have := hlt i1
        refine s_if (et_w (ev_var rfl) hgT w_times_input) (fun h => nomatch h) (fun _ H3 e3 => ?_)
        refine s_if (et_w (ev_var rfl) (ex_t e3 hgT) w_times_constant) (fun h => nomatch h) (fun _ H4 e4 => ?_)
        refine s_if (et_w (ev_var rfl) (ex_t (e3.trans e4) hgT) w_times_sum) (fun h => nomatch h) (fun _ H5 e5 => ?_)
        refine s_if (et_w (ev_var rfl) (ex_t ((e3.trans e4).trans e5) hgT) w_times_times) (fun _ H6 e6 => ?_) (fun h => nomatch h)
        have e36 := ((e3.trans e4).trans e5).trans e6
        have hgT := ex_t e36 hgT
        have p := e36 _ _ p
        have pl := sq_of (K := K) p
        exact s_app p (ev_var rfl) (ev_op (ev_intI (ev_op (ev_op (ev_var rfl) (ev_op (ev_var rfl) ev_c (rv_ixT hgT rfl)) (rv_ixL pl (at_nis (by rw [hlen]; exact okg.1)))) (ev_op (ev_var rfl) ev_c (rv_ixT hgT rfl)) (rv_I (Or.inl ⟨by omega, by omega⟩)))) (ev_var rfl) (rv_I hf0)) hz fun H7 e7 => fin _ H7 rfl (e36.trans e7)
      | pro i1 j1 =>
        have := hlt i1
        refine s_if (et_w (ev_var rfl) hgT w_product_input) (fun h => nomatch h) (fun _ H3 e3 => ?_)
        refine s_if (et_w (ev_var rfl) (ex_t e3 hgT) w_product_constant) (fun h => nomatch h) (fun _ H4 e4 => ?_)
        refine s_if (et_w (ev_var rfl) (ex_t (e3.trans e4) hgT) w_product_sum) (fun h => nomatch h) (fun _ H5 e5 => ?_)
        refine s_if (et_w (ev_var rfl) (ex_t ((e3.trans e4).trans e5) hgT) w_product_times) (fun h => nomatch h) (fun _ H6 e6 => ?_)
        have e36 := ((e3.trans e4).trans e5).trans e6
        have hgT := ex_t e36 hgT
        have p := e36 _ _ p
        have pl := sq_of (K := K) p
        exact s_app p (ev_var rfl) (ev_op (ev_intI (ev_op (ev_op (ev_var rfl) (ev_op (ev_var rfl) ev_c (rv_ixT hgT rfl)) (rv_ixL pl (at_nis (by rw [hlen]; exact okg.1)))) (ev_op (ev_var rfl) (ev_op (ev_var rfl) ev_c (rv_ixT hgT rfl)) (rv_ixL pl (at_nis (by rw [hlen]; exact okg.2)))) (rv_I (Or.inl ⟨by omega, by omega⟩)))) (ev_var rfl) (rv_I hf0)) hz fun H7 e7 => fin _ H7 rfl (e36.trans e7)
def spCiT : Sp := fun vs H Q _ => ∃ (ga oa a : Addr) (f : Nat) (gs : List G) (os : List (Nat × List Nat)) (ns : List Nat), vs = [ni f, .ref ga, .ref oa, .ref a] ∧ GatesAt H ga gs ∧ OkGs gs ∧ OutsAt H oa os ∧ OkOs gs.length os ∧ Nums H a f ns gs ∧ RetL (nis (toldOf f ns gs os)) H Q
theorem spl_ciT {ga oa a : Addr} {f : Nat} {gs : List G} {os : List (Nat × List Nat)} {ns : List Nat} {H : Hp} (hg : GatesAt H ga gs) (ok : OkGs gs) (ho : OutsAt H oa os) (oko : OkOs gs.length os) (hn : Nums H a f ns gs) : SpL spCiT [ni f, .ref ga, .ref oa, .ref a] H (nis (toldOf f ns gs os)) :=
  fun H1 e Q q E => ⟨ga, oa, a, f, gs, os, ns, rfl, hg.ex e, ok, ho.ex e, oko, hn.ex e, q⟩
theorem cal_law_ci_told (G0 : Glo mg) (c__law_ci_meaning : Cal P w K mg base 2 "_law_ci_meaning" ["_law_field", "_law_gates", "_law_numbers"] spCiM) (F : FunX K mg "_law_ci_told" "_law_ci_told" "_law_ci_told" s_law_ci_told ["_law_field", "_law_gates", "_law_outputs", "_law_numbers"]) :
    Cal P w K mg base 3 "_law_ci_told" ["_law_field", "_law_gates", "_law_outputs", "_law_numbers"] spCiT := by
  have G := G0
  refine Cal.mk' F sc_law_ci_told (fun vs H Q E h => ?_) (fun f cdv A outer s H vs Q E hr h => ?_)
  · obtain ⟨ga, oa, a, f, gs, os, ns, rfl, _⟩ := h
    rfl
  · obtain ⟨ga, oa, a, f, gs, os, ns, rfl, hg, ok, ho, oko, hn, k⟩ := h
    refine ⟨_, (pss_cons (ps_set (i := 4) sc_law_ci_told.nd rfl (Or.inr rfl) (pe_cal c__law_ci_meaning (hr.mono (by decide)) (by rfl) (pa_cons (pv 0) (pa_cons (pv 1) (pa_cons (pv 3) pa_nil)))))
      (pss_one (ps_ret (pe_lc (own := [("_law_gate", 5), ("_law_houses", 6)]) rfl sc_law_ci_told.nd (pi_tup (pv 2)) (blkOk_by (own := [("_law_gate", 5), ("_law_houses", 6)]) (N := N_law_ci_told) (sc := defScope s_law_ci_told) (by decide +kernel)) (fun _ _ _ _ _ => (pgTupK K 2 rfl rfl (pgs_cons (pg_name (i := 5) sc_law_ci_told.nd rfl (Or.inl rfl) (Or.inr rfl)) (pgs_cons (pg_name (i := 6) sc_law_ci_told.nd rfl (Or.inl rfl) (Or.inr rfl)) pgs_nil)) rfl)) (fun _ _ _ _ _ => pts_nil) (fun _ _ _ _ _ => (pe_ix (ixLK K rfl) (pv 4) (pv 5) (fun _ _ => rfl))))))), ?_⟩
    refine q_asgL (el_cal (ea_cons (ev_var rfl) (ea_cons (ev_var rfl) (ea_cons (ev_var rfl) ea_nil))) (spl_ciM hg ok hn)) fun l H2 _ e2 hl => ?_
    have hL := sq_of (K := K) hl
    obtain ⟨vs, py, h1, h2, h3⟩ := outs_py (K := K) (ho.ex e2)
    have hT := SqT.of (K := K) h1
    have l6 := oko.le
    refine s_retL (el_is (el_lcT2 (xs := vs) (fun _ => true) (fun i => ni ((means f ns gs).getD (os.getD i (0, [])).1 0)) (fun i => ni (os.getD i (0, [])).1) py (ev_var rfl) hT h3 (by omega) (fun _ _ => rfl) (fun _ _ _ _ => et_yes) (fun i H3 e3 hi _ => ?m1)) ?m2) fun p H3 hp e3 hp3 => k p H3 (fresh_back e2 hp) (e2.trans e3) hp3
    case m1 =>
      have hio : i < os.length := by omega
      have ok := oko.ok _ (List.mem_of_getElem? (at_getD (0, []) hio))
      exact ev_op (ev_var rfl) (ev_var rfl) (rv_ixL (ex_l e3 hL) (at_nis (by rw [means_len]; exact ok.g)))
    case m2 =>
      rw [h2]
      refine (given_of os (0, []) (fun _ => true) (fun o => ni ((means f ns gs).getD o.1 0))).trans ?_
      unfold nis toldOf
      rw [List.filter_eq_self.mpr (fun _ _ => rfl), List.map_map]
      rfl
end
end Ec
set_option maxRecDepth 100000
set_option maxHeartbeats 4000000
/-! the law's own circuits: products by level -/
namespace Ec
open PySem PySem.Spec PyProof.Rows L2 Evl SlX
def prodsTo (gs : List G) (i k : Nat) : List Nat := ((List.range i).filter (proAt gs)).filter fun j => decide ((lvs gs).getD j 0 = k)
theorem prodsTo_succ (gs : List G) (i k : Nat) : prodsTo gs (i + 1) k = prodsTo gs i k ++ if (proAt gs i && decide ((lvs gs).getD i 0 = k)) = true then [i] else [] := by
  unfold prodsTo
  rw [List.range_succ, List.filter_append, List.filter_append, List.filter_cons]
  cases hp : proAt gs i with
  | false => rfl
  | true =>
    rw [if_pos rfl, List.filter_nil, List.filter_cons, List.filter_nil, Bool.true_and]
theorem lvs_pre : ∀ (ys : List G) (acc : List Nat), ∃ r, ys.foldl (fun acc g => acc ++ [lvl1 acc g]) acc = acc ++ r
  | [], acc => ⟨[], (List.append_nil acc).symm⟩
  | y :: ys, acc => by
    obtain ⟨r, h⟩ := lvs_pre ys (acc ++ [lvl1 acc y])
    exact ⟨[lvl1 acc y] ++ r, by rw [List.foldl_cons, h, List.append_assoc]⟩
theorem lvs_at {gs : List G} {i : Nat} {g : G} (h : gs[i]? = some g) : (lvs gs).getD i 0 = lvl1 (lvs (gs.take i)) g := by
  have hi := (List.getElem?_eq_some_iff.mp h).1
  obtain ⟨r, hr⟩ := lvs_pre (gs.drop (i + 1)) (lvs (gs.take (i + 1)))
  have e : lvs gs = lvs (gs.take (i + 1)) ++ r := by
    rw [← hr]
    show lvs gs = (gs.drop (i + 1)).foldl (fun acc g => acc ++ [lvl1 acc g]) ((gs.take (i + 1)).foldl (fun acc g => acc ++ [lvl1 acc g]) [])
    rw [← List.foldl_append, List.take_append_drop]
    rfl
  have hl := lvs_len_take gs i (by omega)
  rw [e, lvs_take h, List.append_assoc, List.getD_eq_getElem?_getD, List.getElem?_append_right (by omega), hl, Nat.sub_self]
  rfl
theorem lvs_pro {gs : List G} {i : Nat} {g : G} (h : gs[i]? = some g) (hp : g.isPro = true) : 1 ≤ (lvs gs).getD i 0 := by
  rw [lvs_at h]
  cases g with
  | pro i j => exact Nat.succ_le_succ (Nat.zero_le _)
  | inp h => cases hp
  | con c => cases hp
  | sum i j => cases hp
  | mul i j => cases hp
section
variable {K : PySem.W.Frag} {σ : L2.St} {H : Hp} {ta tb te : TE}
/-- [[] for _ in range(n)] -/
def EvLs (te : TE) (σ : L2.St) (H : Hp) (n : Nat) : Prop := ∀ H1, Ex H H1 → ∀ Q : VK, (∀ D (ls : List Addr) H2, H1 D = none → Ex H1 H2 → ls.length = n → ls.Nodup → (∀ l ∈ ls, H1 l = none ∧ l ≠ D ∧ H2 l = some (.lst [])) → H2 D = some (.lst (ls.map V.ref)) → Q (.ref D) H2) → te σ H1 Q
theorem el_lists {ta : TA} {j n : Nat} {vs : List Nat} (h : EvA ta σ H [ni n]) (hn : n ≤ 40000) (hw : ∀ x, wipe ((wipe σ vs).set j (some x)) vs = wipe σ vs) : EvLs (tLc (iRng1 ta) (gName j) tYes (tLst tNil) vs) σ H n := fun H0 e Q q => h H0 e _ fun H1 e1 => ⟨(n : Int), rfl, by omega, by omega, fun D hD =>
  lc_range (lo := 0) (n := (n : Int).toNat) (fun i H' => ∃ ls : List Addr, ls.length = i ∧ ls.Nodup ∧ (∀ l ∈ ls, H1 l = none ∧ l ≠ D ∧ H' l = some (.lst [])) ∧ H' D = some (.lst (ls.map V.ref)) ∧ Ex H1 H') ⟨[], rfl, List.nodup_nil, fun l h => (nomatch h), upd_same, Ex.new hD⟩ (fun i H' hi p => by
    obtain ⟨ls, p1, p2, p3, p4, p5⟩ := p
    refine ⟨hw _, ?_⟩
    unfold tYes
    show (if true = true then _ else _)
    rw [if_pos rfl]
    refine ⟨sz_of (Nat.zero_le _), fun p hp => ?_⟩
    have hpD : D ≠ p := ne_of_none p4 hp
    have hpl : ∀ l ∈ ls, l ≠ p := fun l hl => ne_of_none (p3 l hl).2.2 hp
    refine ⟨ls.map V.ref, by rw [upd_ne hpD]; exact p4, sz_lt (by rw [List.length_map]; omega), ls ++ [p], by rw [List.length_append, p1]; rfl, ?_, fun l hl => ?_, ?_, ?_⟩
    · refine List.nodup_append.mpr ⟨p2, List.nodup_cons.mpr ⟨fun h => (nomatch h), List.nodup_nil⟩, fun a ha b hb => ?_⟩
      rw [List.mem_singleton.mp hb]
      exact hpl a ha
    · rcases List.mem_append.mp hl with hl | hl
      · obtain ⟨q1, q2, q3⟩ := p3 l hl
        exact ⟨q1, q2, by rw [upd_ne q2, upd_ne (hpl l hl)]; exact q3⟩
      · rw [List.mem_singleton.mp hl]
        exact ⟨fresh_back p5 hp, Ne.symm hpD, by rw [upd_ne (Ne.symm hpD), upd_same]⟩
    · rw [upd_same, List.map_append]
      rfl
    · exact Ex.mut (p5.trans (Ex.new hp)) hD) (fun H' p => by
    obtain ⟨ls, p1, p2, p3, p4, p5⟩ := p
    exact q D ls H' (fresh_back e1 hD) (e1.trans p5) (by omega) p2 (fun l hl => ⟨fresh_back e1 (p3 l hl).1, (p3 l hl).2⟩) p4)⟩
theorem q_asgLs {D : Ends} {tz : TS} {i n : Nat} (h : EvLs te σ H n) (k : ∀ p (ls : List Addr) H1, H p = none → Ex H H1 → ls.length = n → ls.Nodup → (∀ l ∈ ls, H l = none ∧ l ≠ p ∧ H1 l = some (.lst [])) → H1 p = some (.lst (ls.map V.ref)) → tz D (σ.set i (some (.ref p))) H1) : tSeq (tAsg te (gName i)) tz D σ H :=
  h H (Ex.refl H) _ fun p ls H1 a b c d e f => k p ls H1 a b c d e f
end
section
variable {P : Program} {w : World} {K : PySem.W.Frag} {mg : Str → Option Value} {base : Heap}
abbrev s_law_ci_products : Stmt := top 55
abbrev N_law_ci_products : List Str := ["_law_gates", "_law_levels", "_law_found", "_law_at", "_law_gate", "_law_level"]
theorem sc_law_ci_products : FnScope N_law_ci_products ["_law_gates"] (defScope s_law_ci_products) := ⟨rfl, rfl, rfl, by decide +kernel, rfl, by decide +kernel, by decide +kernel⟩
/-- a list of lists of numbers -/
def LssV (xss : List (List Nat)) : V → Hp → Prop := fun v H => ∃ (p : Addr) (ls : List Addr), v = .ref p ∧ H p = some (.lst (ls.map V.ref)) ∧ ls.length = xss.length ∧ ∀ (i : Nat) l xs, ls[i]? = some l → xss[i]? = some xs → H l = some (.lst (nis xs))
def spCiP : Sp := fun vs H Q _ => ∃ (a : Addr) (gs : List G), vs = [.ref a] ∧ GatesAt H a gs ∧ OkGs gs ∧ RetP (LssV (prodss gs)) H Q
theorem spp_ciP {a : Addr} {gs : List G} {H : Hp} (hg : GatesAt H a gs) (ok : OkGs gs) : SpP spCiP [.ref a] H (LssV (prodss gs)) := fun H1 e Q q E => ⟨a, gs, rfl, hg.ex e, ok, q⟩
theorem cal_law_ci_products (G0 : Glo mg) (c__law_ci_levels : Cal P w K mg base 1 "_law_ci_levels" ["_law_gates"] spLevels) (F : FunX K mg "_law_ci_products" "_law_ci_products" "_law_ci_products" s_law_ci_products ["_law_gates"]) : Cal P w K mg base 2 "_law_ci_products" ["_law_gates"] spCiP := by
  have G := G0
  refine Cal.mk' F sc_law_ci_products (fun vs H Q E h => ?_) (fun f cdv A outer s H vs Q E hr h => ?_)
  · obtain ⟨a, gs, rfl, _⟩ := h
    rfl
  · obtain ⟨a, gs, rfl, hg, ok, k⟩ := h
    refine ⟨_, (pss_cons (ps_set (i := 1) sc_law_ci_products.nd rfl (Or.inl rfl) (pe_cal c__law_ci_levels (hr.mono (by decide)) (by rfl) (pa_cons (pv 0) pa_nil)))
      (pss_cons (ps_setLc (i := 2) (own := [("_law_level", 5)]) rfl sc_law_ci_products.nd rfl rfl (sw_true rfl rfl rfl (by decide +kernel)) (pi_range1 (by rfl) G.range (pa_cons (pe_callB (cr_max rfl) (by rfl) G.max (by decide +kernel) (pa_cons (pv 1) pa_nil)) pa_nil)) (blkOk_by (own := [("_law_level", 5)]) (N := N_law_ci_products) (sc := defScope s_law_ci_products) (by decide +kernel)) (fun _ _ _ _ _ => (pg_name (i := 5) sc_law_ci_products.nd rfl (Or.inl rfl) (Or.inr rfl))) (fun _ _ _ _ _ => pts_nil) (fun _ _ _ _ _ => (pe_lst pa_nil)))
      (pss_cons (ps_for PassesOwn.never rfl (pi_enumT (by rfl) G.enumerate (pa_cons (pv 0) pa_nil)) (pgTupK K 2 rfl rfl (pgs_cons (pg_name (i := 3) sc_law_ci_products.nd rfl (Or.inl rfl) (Or.inr rfl)) (pgs_cons (pg_name (i := 4) sc_law_ci_products.nd rfl (Or.inl rfl) (Or.inr rfl)) pgs_nil)) rfl) (pss_one (ps_if (pt_cmpR op_eq (pe_ix ix_tup (pv 4) pe_int (fun _ _ => rfl)) pe_str (nomark _)) (pss_one (ps_expr (pe_bm PySem.F.plainAttrs_list PySem.F.slot_list_append PySem.F.type_list_append mt_append (pe_ix ix_list (pv 2) (pe_op op_sub (pe_ix ix_list (pv 1) (pv 3) (fun _ _ => rfl)) pe_int) (fun _ _ => rfl)) (pa_cons (pv 3) pa_nil)))) pss_nil)))
      (pss_one (ps_ret (pv 2)))))), ?_⟩
    obtain ⟨vs, h1, h2, h3⟩ := hg.at_
    have hT := SqT.of (K := K) h1
    have l60 := ok.le
    have hlen := lvs_len gs
    have hml : ∀ n, n ∈ lvs gs → n ≤ 60 := fun n h => Nat.le_trans (lvs_le h) l60
    have hmm := maxOf_le hml
    refine q_asgL (el_cal (ea_cons (ev_var rfl) ea_nil) (spl_levels hg ok)) fun lv H1 hlv e1 hlv1 => ?_
    refine q_asgLs (n := maxOf (lvs gs)) (el_lists (ea_cons (ev_maxL (ev_var rfl) (sq_of (K := K) hlv1) (fun h => by rw [h] at hlen; have := ok.ne; simp at hlen; omega)) ea_nil) (by omega) (fun _ => rfl)) fun D ls H2 hD e2 hll hnd hls hD2 => ?_
    refine q_forE (ea_cons (ev_var rfl) ea_nil) (ex_t (e1.trans e2) hT) (fun i σ' H' => ∃ o1 o2, σ' = [some (.ref a), some (.ref lv), some (.ref D), o1, o2, none] ∧ Ex H1 H' ∧ H' D = some (.lst (ls.map V.ref)) ∧ ∀ (k : Nat) l, ls[k]? = some l → H' l = some (.lst (nis (prodsTo gs i (k + 1)))))
      (fun H3 e3 => ⟨none, none, rfl, e2.trans e3, e3 _ _ hD2, fun k l hl => e3 _ _ (hls l (List.mem_of_getElem? hl)).2.2⟩) (fun i σ' H' _ p => by
        obtain ⟨o1, o2, rfl, e, _⟩ := p
        exact ex_t (e1.trans e) hT) (fun i x σ' H' H3 hx p e3 => ?m1) (fun σ' H' p => ?m2)
    case m2 =>
      obtain ⟨o1, o2, rfl, e, hD', hl'⟩ := p
      refine s_ret (ev_var rfl) fun H3 e3 => k _ H3 ((e1.trans e).trans e3) ⟨D, ls, rfl, e3 _ _ hD', ?_, fun i l xs hl hxs => ?_⟩
      · rw [hll, prodss, List.length_map, List.length_range]
      · have hi : i < maxOf (lvs gs) := by rw [← hll]; exact (List.getElem?_eq_some_iff.mp hl).1
        rw [prodss, List.getElem?_map, List.getElem?_range hi] at hxs
        cases hxs
        have h := e3 _ _ (hl' i l hl)
        rw [h2] at h
        exact h
    case m1 =>
      obtain ⟨o1, o2, rfl, e, hD', hl'⟩ := p
      obtain ⟨q, g, rfl, hgi, hq⟩ := h3 i x hx
      have hi : i < gs.length := (List.getElem?_eq_some_iff.mp hgi).1
      have e := e.trans e3
      have hD' := e3 _ _ hD'
      have hl' : ∀ (k : Nat) l, ls[k]? = some l → H3 l = some (.lst (nis (prodsTo gs i (k + 1)))) := fun k l hl => e3 _ _ (hl' k l hl)
      have hq := e _ _ (e1 _ _ hq)
      have hgT := SqT.of (K := K) hq
      have hpa : proAt gs i = g.isPro := by unfold proAt; rw [getD_of hgi]
      refine s_when (et_w (ev_var rfl) hgT (w_pro g)) (fun hp H4 e4 => ?_) (fun hp H4 e4 => ?_)
      · have hL1 := lvs_pro hgi hp
        have hLm : (lvs gs).getD i 0 ≤ maxOf (lvs gs) := maxOf_ge (List.mem_of_getElem? (at_getD 0 (by omega)))
        have hk : (lvs gs).getD i 0 - 1 < ls.length := by omega
        obtain ⟨l, hl⟩ : ∃ l, ls[(lvs gs).getD i 0 - 1]? = some l := ⟨_, List.getElem?_eq_getElem hk⟩
        have hD4 := e4 _ _ hD'
        have hl4 := e4 _ _ (hl' _ l hl)
        have hlD : l ≠ D := (hls l (List.mem_of_getElem? hl)).2.1
        have hl0 := (hls l (List.mem_of_getElem? hl)).1
        have hz : (nis (prodsTo gs i ((lvs gs).getD i 0 - 1 + 1))).length < 100000 := by
          rw [nis_len]
          have h1 := List.length_filter_le (fun j => decide ((lvs gs).getD j 0 = (lvs gs).getD i 0 - 1 + 1)) ((List.range i).filter (proAt gs))
          have h2 := List.length_filter_le (proAt gs) (List.range i)
          rw [List.length_range] at h2
          unfold prodsTo
          omega
        refine s_app (l := l) (v := ni i) hl4 (ev_op (ev_var rfl) (ev_is (ev_op (ev_op (ev_var rfl) (ev_var rfl) (rv_ixL (ex_l (e.trans e4) (sq_of (K := K) hlv1)) (at_nis (by rw [hlen]; exact hi)))) ev_c rv_I0) ?m3) (rv_ixL (sq_of hD4) (atI_nat (i := (lvs gs).getD i 0 - 1) ?m4))) (ev_var rfl) hz fun H5 e5 => ⟨_, _, rfl, Ex.mut ((e.trans e4).trans e5) hl0, ?m5, fun k l' hl2 => ?m6⟩
        case m3 =>
          refine congrArg V.int ?_
          show (((lvs gs).getD i 0 : Nat) : Int) - 1 = (((lvs gs).getD i 0 - 1 : Nat) : Int)
          omega
        case m4 => rw [List.getElem?_map, hl]; rfl
        case m5 => rw [upd_ne (Ne.symm hlD)]; exact e5 _ _ hD4
        case m6 =>
          by_cases hkk : k = (lvs gs).getD i 0 - 1
          · subst hkk
            rw [hl] at hl2
            cases hl2
            rw [upd_same, nis_snoc, prodsTo_succ, hpa, hp, Bool.true_and, if_pos (decide_eq_true (by omega))]
          · have hne : l' ≠ l := fun z => by
              subst z
              exact hkk ((List.getElem?_inj (List.getElem?_eq_some_iff.mp hl2).1 hnd).mp (hl2.trans hl.symm))
            rw [upd_ne hne, prodsTo_succ, hpa, hp, Bool.true_and, if_neg (by
              intro z
              have := of_decide_eq_true z
              omega), List.append_nil]
            exact e5 _ _ (e4 _ _ (hl' k l' hl2))
      · refine ⟨_, _, rfl, e.trans e4, e4 _ _ hD', fun k l hl => ?_⟩
        rw [prodsTo_succ, hpa, hp, Bool.false_and, if_neg (by decide), List.append_nil]
        exact e4 _ _ (hl' k l hl)
end
end Ec
set_option maxRecDepth 100000
set_option maxHeartbeats 8000000
/-! one turn of the law -/
namespace Ec
open PySem PySem.Spec PyProof.Rows L2 Evl SlX
theorem opEqCK {P : Program} {w : World} {K : PySem.W.Frag} {mg : Str → Option Value} {base : Heap} {X : Cx} {k : Nat} {C : Addr} {ps : List Str} {sp : Sp} (h1 : X.prog = P) (h2 : X.w = w) (h3 : X.K = K) (h4 : X.mg = mg) (h5 : X.base = base) (F : AtF P w K mg base k (ROwn K C "__eq__") ps sp) (hr : Room k X.A) :
    OpR X (compareOp .Eq) (rOwnEq K C sp E0) := by
  subst h1 h2 h3 h4 h5
  exact op_eqC F hr
theorem houses_idx (gs : List G) : (idx gs).map (fun i => (gs.getD i (.con 0)).house) = housesOf gs := by
  unfold housesOf
  rw [← (congrArg (fun z => (List.filter G.isInp z).map G.house) (range_getD gs (.con 0))), List.filter_map, List.map_map]
  rfl
theorem idx_mem {gs : List G} {n : Nat} (h : n ∈ idx gs) : n < gs.length ∧ ∃ k, gs[n]? = some (.inp k) := by
  obtain ⟨h1, h2⟩ := List.mem_filter.mp h
  have hn := List.mem_range.mp h1
  refine ⟨hn, ?_⟩
  have hg := at_getD (G.con 0) hn
  unfold inAt at h2
  rw [hg]
  cases hz : gs.getD n (.con 0) with
  | inp k => exact ⟨k, rfl⟩
  | con c => rw [hz] at h2; cases h2
  | sum i j => rw [hz] at h2; cases h2
  | mul i j => rw [hz] at h2; cases h2
  | pro i j => rw [hz] at h2; cases h2
section
variable {K : PySem.W.Frag} {σ : L2.St} {H : Hp} {ta tb te tl : TE} {D : Ends} {tz : TS} {g : TG}
theorem q_asgG {R : V → Hp → Prop} (h : EvP te σ H R) (k : ∀ v H1, Ex H H1 → R v H1 → g v σ H1 fun σ' H' => tz D σ' H') : tSeq (tAsg te g) tz D σ H := h H (Ex.refl H) _ fun v H1 e hr => k v H1 e hr
/-- what stands at the turn's start -/
structure Fx (C : Addr) (H : Hp) (d ga oa c l f : Addr) (gs : List G) (os : List (Nat × List Nat)) : Prop where
  d : Dice H d
  g : GatesAt H ga gs
  o : OutsAt H oa os
  c : Cir C H c gs os
  l : H l = some (.lst (nis (idx gs)))
theorem Fx.ex {C : Addr} {H H' : Hp} {d ga oa c l f : Addr} {gs : List G} {os : List (Nat × List Nat)} (h : Fx C H d ga oa c l f gs os) (e : Ex H H') : Fx C H' d ga oa c l f gs os := ⟨h.d.ex e, h.g.ex e, h.o.ex e, h.c.ex e, e _ _ h.l⟩
def SP : Unit → V → Hp → Prop := fun _ v _ => ∃ z : Str, v = .str z
theorem sp_steady : Steady SP := fun _ _ _ _ _ h => h
theorem exs_ref {d : Addr} : ExS (fun v _ => v = .ref d) := fun _ _ _ _ h => h
theorem exs_vn {p : Nat → Prop} : ExS (VN p) := fun _ _ _ _ h => h
/-- [tuple(x) for x in a list of lists] -/
theorem el_tups {xss : List (List Nat)} {j : Nat} {vs : List Nat} (h : EvP tl σ H (LssV xss)) (hz : xss.length ≤ 40000) (hw : ∀ x, wipe ((wipe σ vs).set j (some x)) vs = wipe σ vs) (hj : ∀ x : V, ((wipe σ vs).set j (some x))[j]? = some (some x)) :
    EvP (tCB (rTupOf K) (tCons (tLc (iList K tl) (gName j) tYes (tCB (rTupOf K) (tCons (tVar j) tNil)) vs) tNil)) σ H (DpV K (nssD xss)) := fun H0 e Q q =>
  h H0 e _ fun v H1 e1 hv => by
    obtain ⟨p, ls, rfl, hp, hl, hls⟩ := hv
    have hl2 : (ls.map V.ref).length = xss.length := by rw [List.length_map]; exact hl
    refine eu_tupP (K := K) (Told.mono (tupV_steady fun i => nis (xss.getD i []))) (el_lcLP (K := K) (tl := tC (.ref p)) (σ := σ) (H := H1) (fun _ => true) _ (tupV_steady fun i => nis (xss.getD i [])) ev_c (sq_of hp) (by omega) hw (fun _ _ _ _ _ => et_yes) (fun i x H2 e2 hx _ => ?_)) H1 (Ex.refl H1) _ fun t us H2 ht e2 ht2 hr => ?_
    · rw [List.getElem?_map] at hx
      cases hz2 : ls[i]? with
      | none => rw [hz2] at hx; cases hx
      | some l =>
        rw [hz2] at hx
        cases hx
        have hi := (List.getElem?_eq_some_iff.mp hz2).1
        exact evp_U (eu_tupL (ev_var (hj _)) (sq_of (e2 _ _ (hls i l _ hz2 (at_getD [] (by omega))))))
    · obtain ⟨ps, rfl, h1, h2⟩ := told_refs (Pa := fun i p H => H p = some (.tup (nis (xss.getD i [])))) hr fun k v h => h
      rw [List.filter_eq_self.mpr (fun _ _ => rfl), List.length_range] at h1
      refine q _ H2 (e1.trans e2) (dp_nss ⟨ps, ht2, by omega, fun i p xs hp hx => ?_⟩)
      have hi : i < (ls.map V.ref).length := by
        have := (List.getElem?_eq_some_iff.mp hx).1
        omega
      rw [List.filter_eq_self.mpr (fun _ _ => rfl)] at h2
      have h := h2 i p i hp (List.getElem?_range hi)
      rw [getD_of hx] at h
      exact h
/-- str(i), text + text -/
def rStrI : List V → Hp → VK → Prop := fun xs H Q => ∃ i, xs = [.int i] ∧ i.natAbs.log2 < 1920 ∧ Q (.str (toString i)) H
theorem ev_strI {n : Nat} (h : Ev ta σ H (ni n)) (hn : n < 100) : Ev (tCB rStrI (tCons ta tNil)) σ H (.str (toString (n : Int))) := fun H1 e Q q => h H1 e _ fun H2 e2 => ⟨(n : Int), rfl, log_small hn, q H2 e2⟩
def rAddS : R2 := fun x y H Q => ∃ i j : Str, x = .str i ∧ y = .str j ∧ i.length + j.length ≤ sizeLine ∧ Q (.str (i ++ j)) H
theorem ev_addS {x y : Str} (ha : Ev ta σ H (.str x)) (hb : Ev tb σ H (.str y)) (hl : x.length + y.length ≤ 10000) : Ev (tOp rAddS ta tb) σ H (.str (x ++ y)) := ev_op ha hb fun H1 e Q q => ⟨x, y, rfl, rfl, sz_of (by omega), q H1 (Ex.refl H1)⟩
/-- own == and != -/
theorem ev_ownEq {C : Addr} {x : Addr} {b : Bool} {gs : List G} {os : List (Nat × List Nat)} {R : V → Hp → Prop} (ha : Ev ta σ H (.ref x)) (hc : Cir C H x gs os) (hb : EvP tb σ H R) (hR : ∀ v H2, Ex H H2 → R v H2 → RgtV K H2 C v ∧ ∀ Q : VK, RetV (.bl b) H2 Q → ∀ E : XK, spEq K C [.ref x, v] H2 Q E) : Ev (tOp (rOwnEq K C (spEq K C) E0) ta tb) σ H (.bl b) := fun H1 e Q q =>
  ha H1 e _ fun H2 e2 => hb H2 (e.trans e2) _ fun v H3 e3 hv => by
    obtain ⟨h1, h2⟩ := hR v H3 ((e.trans e2).trans e3) hv
    obtain ⟨dx, ga, oa, hs, _, _⟩ := (hc.ex ((e.trans e2).trans e3)).at_
    exact ⟨x, dx, _, rfl, hs, h1, h2 Q (fun H4 e4 => q H4 ((e2.trans e3).trans e4)) E0⟩
theorem ev_ownNe {C : Addr} {x : Addr} {b : Bool} {gs : List G} {os : List (Nat × List Nat)} {R : V → Hp → Prop} (ha : Ev ta σ H (.ref x)) (hc : Cir C H x gs os) (hb : EvP tb σ H R) (hR : ∀ v H2, Ex H H2 → R v H2 → RgtV K H2 C v ∧ ∀ Q : VK, RetV (.bl b) H2 Q → ∀ E : XK, spEq K C [.ref x, v] H2 Q E) : Ev (tOp (rOwnNe K C (spEq K C) E0) ta tb) σ H (.bl !b) := fun H1 e Q q =>
  ha H1 e _ fun H2 e2 => hb H2 (e.trans e2) _ fun v H3 e3 hv => by
    obtain ⟨h1, h2⟩ := hR v H3 ((e.trans e2).trans e3) hv
    obtain ⟨dx, ga, oa, hs, _, _⟩ := (hc.ex ((e.trans e2).trans e3)).at_
    exact ⟨x, dx, _, rfl, hs, h1, h2 _ (fun H4 e4 => ⟨b, rfl, q H4 ((e2.trans e3).trans e4)⟩) E0⟩
/-- another circuit on the right -/
theorem eq_cir {C x : Addr} {gs gs' : List G} {os os' : List (Nat × List Nat)} {H : Hp} {b : Bool} (hx : Cir C H x gs os) (he : (PyData.eqv (gsD gs) (gsD gs') && PyData.eqv (osD os) (osD os')) = b) : ∀ v H2, Ex H H2 → (∃ a, v = .ref a ∧ Cir C H2 a gs' os') → RgtV K H2 C v ∧ ∀ Q : VK, RetV (.bl b) H2 Q → ∀ E : XK, spEq K C [.ref x, v] H2 Q E := fun v H2 e ⟨a, hv, hc⟩ => by
  subst hv
  obtain ⟨dx, ga, oa, hs, _, _⟩ := hc.at_
  exact ⟨.inr ⟨a, dx, _, rfl, hs⟩, fun Q q E => ⟨x, gs, os, _, rfl, hx.ex e, .inl ⟨a, gs', os', rfl, hc, by rw [he]; exact q⟩⟩⟩
/-- no circuit on the right -/
theorem eq_no {C x : Addr} {gs : List G} {os : List (Nat × List Nat)} {H : Hp} {y : V} {t : Value} (hx : Cir C H x gs os) (ty : ∀ H1, Ex H H1 → TyX K H1 y t) (hk : PySem.W.kitOne K t (.ref C) = some false) (hn : PySem.W.notFirst K C t = true) : ∀ v H2, Ex H H2 → v = y → RgtV K H2 C v ∧ ∀ Q : VK, RetV (.bl false) H2 Q → ∀ E : XK, spEq K C [.ref x, v] H2 Q E := fun v H2 e hv => by
  subst hv
  exact ⟨.inl ⟨t, ty H2 e, hn⟩, fun Q q E => ⟨x, gs, os, _, rfl, hx.ex e, .inr ⟨fun H1 e1 => ⟨t, ty H1 (e.trans e1), hk⟩, q⟩⟩⟩
theorem ev_strC {C : Addr} {x : Addr} {gs : List G} {os : List (Nat × List Nat)} (ha : Ev ta σ H (.ref x)) (hc : Cir C H x gs os) : Ev (tCB (rStrOwn C (spStr C) E0) (tCons ta tNil)) σ H (.str (cStr gs.length (gs.countP G.isPro))) := fun H1 e Q q =>
  ha H1 e _ fun H2 e2 => by
    obtain ⟨dx, ga, oa, hs, _, _⟩ := (hc.ex (e.trans e2)).at_
    exact ⟨x, dx, _, rfl, hs, x, gs, os, rfl, hc.ex (e.trans e2), fun H3 e3 => ⟨_, rfl, q H3 (e2.trans e3)⟩⟩
theorem el_catT {a : Addr} {xs : List V} (ha : Ev ta σ H (.ref a)) (hx : SqT K H a xs) (hx0 : xs ≠ []) (R : List V → Hp → Prop) (hb : EvUP tb σ H R) (hR : ∀ ys H1, R ys H1 → ys ≠ [] ∧ xs.length + ys.length ≤ 100000) (hRs : ∀ ys H H', Ex H H' → R ys H → R ys H') : EvUP (tOp (rCatT K) ta tb) σ H (fun zs H => ∃ ys, zs = xs ++ ys ∧ R ys H) := fun H1 e Q q =>
  ha H1 e _ fun H2 e2 => hb H2 (e.trans e2) _ fun p ys H3 hp e3 hp3 hr => ⟨a, p, xs, ys, rfl, rfl, ex_t ((e.trans e2).trans e3) hx, st_of hp3, hx0, sz_of (hR ys H3 hr).2, fun z => absurd z (hR ys H3 hr).1, fun _ l hl => q l _ _ (fresh_back (e2.trans e3) hl) ((e2.trans e3).trans (Ex.new hl)) upd_same ⟨ys, rfl, hRs _ _ _ (Ex.new hl) hr⟩⟩
end
end Ec
set_option maxRecDepth 100000
set_option maxHeartbeats 8000000
/-! one turn of the law, walked -/
namespace Ec
open PySem PySem.Spec PyProof.Rows L2 Evl SlX
section
variable {P : Program} {w : World} {K : PySem.W.Frag} {mg : Str → Option Value} {base : Heap} {C : Addr}
theorem evp_tupPL {σ : L2.St} {H : Hp} {te tl : TE} {R1 : V → Hp → Prop} {xs : List V} (s : ExS R1) (h : EvP te σ H R1) (hl : EvL tl σ H xs) : EvP (tTup (tCons te (tCons tl tNil))) σ H (fun v H => ∃ t x l, v = .ref t ∧ H t = some (.tup [x, .ref l]) ∧ R1 x H ∧ H l = some (.lst xs)) := fun H1 e Q q =>
  h H1 e _ fun x H2 e2 hx => hl H2 (e.trans e2) _ fun l H3 hl e3 hl3 => ⟨sz_of (Nat.le_of_ble_eq_true rfl), fun t ht => q _ _ ((e2.trans e3).trans (Ex.new ht)) ⟨t, x, l, rfl, upd_same, s _ _ _ (e3.trans (Ex.new ht)) hx, Ex.new ht _ _ hl3⟩⟩
theorem MkA.ex {gs : List G} {os : List (Nat × List Nat)} {vs : List V} {H H' : Hp} (h : MkA gs os vs H) (e : Ex H H') : MkA gs os vs H' := by
  obtain ⟨ga, oa, h1, h2, h3⟩ := h
  exact ⟨ga, oa, h1, h2.ex e, h3.ex e⟩
theorem evp_mkX {ι : Type} {σ : L2.St} {H : Hp} {tas : TA} {Pi : ι → Prop} {gsf : ι → List G} {os : List (Nat × List Nat)} (ha : EvAR tas σ H (fun vs H => ∃ i, Pi i ∧ MkA (gsf i) os vs H)) (okg : ∀ i, Pi i → OkGs (gsf i)) (oko : ∀ i, Pi i → OkOs (gsf i).length os) :
    EvP (tMake C (spInit C) [] E0 tas) σ H fun v H2 => ∃ i a, Pi i ∧ v = .ref a ∧ Cir C H2 a (gsf i) os := fun H1 e Q q =>
  ha H1 e _ fun vs H2 e2 hv => by
    obtain ⟨i, hi, hm⟩ := hv
    exact evp_mkR (tas := fun _ H Q => Q vs H) (σ := σ) (fun H3 e3 Q q => q vs H3 (Ex.refl H3) (hm.ex e3)) (okg i hi) (oko i hi) H2 (Ex.refl H2) Q fun v H3 e3 hv => by
      obtain ⟨a, hva, hc⟩ := hv
      exact q v H3 (e2.trans e3) ⟨i, a, hi, hva, hc⟩
def KP : Unit → V → Hp → Prop := fun _ v H => ∃ c, TupV [.str "constant", ni c] v H ∧ c ≤ 996
theorem kp_steady : Steady KP := fun _ v H H' e h => by
  obtain ⟨c, hv, hc⟩ := h
  exact ⟨c, tupV_steady (fun _ : Unit => [V.str "constant", ni c]) () _ _ _ e hv, hc⟩
theorem one_of {P : Unit → V → Hp → Prop} {H : Hp} {ys : List V} (t : Told P [()] ys H) : ∃ v, ys = [v] ∧ P () v H := by
  match ys, t with
  | [v], t => exact ⟨v, rfl, t.2 0 () v rfl rfl⟩
  | [], t => cases t.1
  | _ :: _ :: _, t => cases t.1
/-- gates + (one more constant,) -/
theorem evp_more {σ : L2.St} {H : Hp} {ta tb : TE} {ga : Addr} {gs : List G} (ha : Ev ta σ H (.ref ga)) (hg : GatesAt H ga gs) (l1 : 1 ≤ gs.length) (l60 : gs.length ≤ 60) (hb : EvP tb σ H (VN fun c => c < 997)) :
    EvP (tOp (rCatT K) ta (tTup (tCons (tTup (tCons (tC (.str "constant")) (tCons tb tNil))) tNil))) σ H (fun v H => ∃ c, c ≤ 996 ∧ ∃ a, v = .ref a ∧ GatesAt H a (gs ++ [.con c])) := fun H1 e Q q => by
  obtain ⟨xs, hx, ht⟩ := told_of_gates hg
  have hl := ht.1
  refine el_catT (K := K) ha (SqT.of hx) (fun z => by rw [z] at hl; simp at hl; omega) (Told KP [()]) (eu_tupT kp_steady (eat_cons kp_steady ((evp_tup2 (z := "constant") hb).imp fun v H2 _ h => ?_) eat_nil) (by decide)) (fun ys H2 h => ?_) (Told.mono kp_steady) H1 e _ fun p zs H2 hp e2 hp2 hz => ?_
  · obtain ⟨c, hv, hc⟩ := h
    exact ⟨c, hv, by omega⟩
  · obtain ⟨v, rfl, _⟩ := one_of h
    exact ⟨fun z => (nomatch z), by show xs.length + 1 ≤ _; omega⟩
  · obtain ⟨ys, rfl, h⟩ := hz
    obtain ⟨v, rfl, c, hv, hc⟩ := one_of h
    exact q _ H2 e2 ⟨c, hc, p, rfl, gates_of hp2 ((ht.ext gt_steady (ext_of (e.trans e2))).snoc (k := .con c) (show GT (.con c) v H2 from hv))⟩
theorem evp_o9 {σ : L2.St} {H : Hp} : EvP (tTup (tCons (tC (.int 0)) (tCons (tTup (tCons (tC (.int 9)) tNil)) tNil))) σ H (OT (0, [9])) := fun H1 e Q q =>
  ⟨sz_of (Nat.le_of_ble_eq_true rfl), fun b hb => ⟨sz_of (Nat.le_of_ble_eq_true rfl), fun p hp => q _ _ ((Ex.new hb).trans (Ex.new hp)) ⟨p, rfl, b, upd_same, Ex.new hp _ _ upd_same⟩⟩⟩
theorem evp_moreO {σ : L2.St} {H : Hp} {ta : TE} {oa : Addr} {os : List (Nat × List Nat)} (ha : Ev ta σ H (.ref oa)) (ho : OutsAt H oa os) (l1 : 1 ≤ os.length) (l6 : os.length ≤ 60) :
    EvP (tOp (rCatT K) ta (tTup (tCons (tTup (tCons (tC (.int 0)) (tCons (tTup (tCons (tC (.int 9)) tNil)) tNil))) tNil))) σ H (fun v H => ∃ a, v = .ref a ∧ OutsAt H a (os ++ [(0, [9])])) := fun H1 e Q q => by
  obtain ⟨xs, hx, ht⟩ := told_of_outs ho
  have hl := ht.1
  refine el_catT (K := K) ha (SqT.of hx) (fun z => by rw [z] at hl; simp at hl; omega) (Told OT [(0, [9])]) (eu_tupT ot_steady (eat_cons ot_steady evp_o9 eat_nil) (by decide)) (fun ys H2 h => ?_) (Told.mono ot_steady) H1 e _ fun p zs H2 hp e2 hp2 hz => ?_
  · have hy := h.1
    exact ⟨fun z => (by rw [z] at hy; cases hy), by rw [hy]; show xs.length + 1 ≤ _; omega⟩
  · obtain ⟨ys, rfl, h⟩ := hz
    have hy := h.1
    match ys, h with
    | [v], h => exact q _ H2 e2 ⟨p, rfl, outs_of hp2 ((ht.ext ot_steady (ext_of (e.trans e2))).snoc (h.2 0 _ v rfl rfl))⟩
    | [], h => cases h.1
    | _ :: _ :: _, h => cases h.1
/-- None, a tuple, a text -/
def EqV : Unit → V → Hp → Prop := fun _ v H => v = .non ∨ (∃ q xs, v = .ref q ∧ H q = some (.tup xs)) ∨ ∃ z, v = .str z
theorem eqV_steady : Steady EqV := fun _ v H H' e h => by
  rcases h with h | ⟨q, xs, h, hq⟩ | h
  · exact .inl h
  · exact .inr (.inl ⟨q, xs, h, e _ _ hq⟩)
  · exact .inr (.inr h)
theorem el_lcUP {σ : L2.St} {H : Hp} {tl te : TE} {t : TT} {g : TG} {own : List Nat} {R : List V → Hp → Prop} {xs : List V} (h : EvUP tl σ H R) (k : ∀ p vs H1, Ex H H1 → H1 p = some (.tup vs) → R vs H1 → EvL (tLc (iTup K (tC (.ref p))) g t te own) σ H1 xs) : EvL (tLc (iTup K tl) g t te own) σ H xs := fun H0 e Q q =>
  h H0 e _ fun p vs H1 hp e1 h1 hr => k p vs H1 (e.trans e1) h1 hr H1 (Ex.refl H1) Q fun l H2 hl e2 h2 => q l H2 (fresh_back e1 hl) (e1.trans e2) h2
theorem oko_more {n : Nat} {os : List (Nat × List Nat)} (h : OkOs n os) (h3 : os.length ≤ 3) (hn : 1 ≤ n) : OkOs n (os ++ [(0, [9])]) := ⟨by rw [List.length_append]; have := h.ne; omega, by rw [List.length_append]; show os.length + 1 ≤ 6; omega, fun o ho => by
  rcases List.mem_append.mp ho with ho | ho
  · exact h.ok o ho
  · rw [List.mem_singleton.mp ho]
    exact ⟨hn, fun z => (nomatch z), by decide, fun x hx => (by rw [List.mem_singleton.mp hx]; decide), List.pairwise_singleton _ _⟩⟩
theorem oko_mono {n m : Nat} {os : List (Nat × List Nat)} (h : OkOs n os) (l : n ≤ m) : OkOs m os := ⟨h.ne, h.le, fun o ho => by
  have k := h.ok o ho
  exact ⟨Nat.lt_of_lt_of_le k.g l, k.ne, k.le, k.ran, k.asc⟩⟩
theorem eqv_gs_more (gs : List G) (g : G) : PyData.eqv (gsD gs) (gsD (gs ++ [g])) = false := eqv_len (by rw [List.length_map, List.length_map, List.length_append]; show gs.length ≠ gs.length + 1; omega)
theorem eqv_os_more (os : List (Nat × List Nat)) (o : Nat × List Nat) : PyData.eqv (osD os) (osD (os ++ [o])) = false := eqv_len (by rw [List.length_map, List.length_map, List.length_append]; show os.length ≠ os.length + 1; omega)
abbrev s_law_right : Stmt := top 59
abbrev N_law_right : List Str := ["_law_dice_here", "_law_field_here", "_law_houses", "_law_most", "_law_gates", "_law_outputs", "_law_told", "_law_places", "_law_house", "_law_turn", "_law_numbers", "_law_many", "_law_other", "_law_at", "_law_some", "_law_gate", "_law_value"]
theorem sc_law_right : FnScope N_law_right ["_law_dice_here"] (defScope s_law_right) := ⟨rfl, rfl, rfl, by decide +kernel, rfl, by decide +kernel, by decide +kernel⟩
def spRight : Sp := fun vs H Q _ => ∃ d : Addr, vs = [.ref d] ∧ Dice H d ∧ RetV (.bl true) H Q
theorem spv_right {d : Addr} {H : Hp} (hd : Dice H d) : SpV spRight [.ref d] H (.bl true) := fun H1 e Q q E => ⟨d, rfl, hd.ex e, q⟩
/-- what the class gives -/
structure CiX (P : Program) (w : World) (K : PySem.W.Frag) (mg : Str → Option Value) (base : Heap) (C : Addr) : Prop where
  mkC : AtF P w K mg base 5 (RMk K C) ["self", "gates", "outputs"] (spInit C)
  p_gates : AtF P w K mg base 1 (RProp K C "gates") ["self"] (spProp C fun gs os v H => ∃ ga, v = .ref ga ∧ GatesAt H ga gs)
  p_outputs : AtF P w K mg base 1 (RProp K C "outputs") ["self"] (spProp C fun gs os v H => ∃ oa, v = .ref oa ∧ OutsAt H oa os)
  p_inputs : AtF P w K mg base 1 (RProp K C "inputs") ["self"] (spProp C fun gs os => TupV (nis (idx gs)))
  p_houses : AtF P w K mg base 1 (RProp K C "houses") ["self"] (spProp C fun gs os => TupV (nis (housesOf gs)))
  p_levels : AtF P w K mg base 3 (RProp K C "levels") ["self"] (spProp C fun gs os => DpV K (nssD (prodss gs)))
  m_inputs_of : AtF P w K mg base 2 (RMeth K C "inputs_of") ["self", "house"] (spIn C)
  m_meaning : AtF P w K mg base 8 (RMeth K C "meaning") ["self", "field", "numbers"] (spMean C fun f ns gs os => TupV (nis (means f ns gs)))
  m_told : AtF P w K mg base 8 (RMeth K C "told") ["self", "field", "numbers"] (spMean C fun f ns gs os => TupV (nis (toldOf f ns gs os)))
  oEq : AtF P w K mg base 1 (ROwn K C "__eq__") ["self", "other"] (spEq K C)
  oStr : AtF P w K mg base 2 (ROwn K C "__str__") ["self"] (spStr C)
theorem cal_law_right (G0 : Glo mg) (Ci : CiF K mg C) (CX : CiX P w K mg base C) (c__law_roll : Cal P w K mg base 1 "_law_roll" ["_law_dice_here", "_law_most"] spRoll) (c__law_pick : Cal P w K mg base 2 "_law_pick" ["_law_dice_here", "_law_items"] (spPick K))
    (c__law_dr_hall : Cal P w K mg base 3 "_law_dr_hall" ["_law_dice_here", "_law_kind"] spHall) (c__law_dr_gates : Cal P w K mg base 4 "_law_dr_gates" ["_law_dice_here", "_law_field", "_law_houses", "_law_many", "_law_products"] spDrGs)
    (c__law_dr_outputs : Cal P w K mg base 4 "_law_dr_outputs" ["_law_dice_here", "_law_gates", "_law_houses"] spDrO) (c__law_dr_inputs : Cal P w K mg base 4 "_law_dr_inputs" ["_law_dice_here", "_law_field", "_law_gates"] spDrI)
    (c__law_ci_inputs : Cal P w K mg base 1 "_law_ci_inputs" ["_law_gates"] spIdx) (c__law_ci_products : Cal P w K mg base 2 "_law_ci_products" ["_law_gates"] spCiP) (c__law_ci_meaning : Cal P w K mg base 2 "_law_ci_meaning" ["_law_field", "_law_gates", "_law_numbers"] spCiM)
    (c__law_ci_told : Cal P w K mg base 3 "_law_ci_told" ["_law_field", "_law_gates", "_law_outputs", "_law_numbers"] spCiT) (F : FunX K mg "_law_right" "_law_right" "_law_right" s_law_right ["_law_dice_here"]) : Cal P w K mg base 9 "_law_right" ["_law_dice_here"] spRight := by
  have G := G0
  obtain ⟨mkC, p_gates, p_outputs, p_inputs, p_houses, p_levels, m_inputs_of, m_meaning, m_told, oEq, oStr⟩ := CX
  refine Cal.mk' F sc_law_right (fun vs H Q E h => ?_) (fun f cdv A outer s H vs Q E hr h => ?_)
  · obtain ⟨d, rfl, _⟩ := h
    rfl
  · obtain ⟨d, rfl, hd, k⟩ := h
    refine ⟨_, (pss_cons (ps_asg (pe_cal c__law_dr_hall (hr.mono (by decide)) (by rfl) (pa_cons (pv 0) (pa_cons (pe_cal c__law_pick (hr.mono (by decide)) (by rfl) (pa_cons (pv 0) (pa_cons (pe_lst (pa_cons pe_str (pa_cons pe_str pa_nil))) pa_nil))) pa_nil))) (pgTupK K 3 rfl rfl (pgs_cons (pg_name (i := 1) sc_law_right.nd rfl (Or.inl rfl) (Or.inr rfl)) (pgs_cons (pg_name (i := 2) sc_law_right.nd rfl (Or.inl rfl) (Or.inr rfl)) (pgs_cons (pg_name (i := 3) sc_law_right.nd rfl (Or.inl rfl) (Or.inr rfl)) pgs_nil))) rfl))
      (pss_cons (ps_set (i := 4) sc_law_right.nd rfl (Or.inr rfl) (pe_cal c__law_dr_gates (hr.mono (by decide)) (by rfl) (pa_cons (pv 0) (pa_cons (pv 1) (pa_cons (pv 2) (pa_cons (pe_cal c__law_roll (hr.mono (by decide)) (by rfl) (pa_cons (pv 0) (pa_cons pe_int pa_nil))) (pa_cons (pe_cal c__law_roll (hr.mono (by decide)) (by rfl) (pa_cons (pv 0) (pa_cons pe_int pa_nil))) pa_nil)))))))
      (pss_cons (ps_set (i := 5) sc_law_right.nd rfl (Or.inl rfl) (pe_cal c__law_dr_outputs (hr.mono (by decide)) (by rfl) (pa_cons (pv 0) (pa_cons (pv 4) (pa_cons (pv 2) pa_nil)))))
      (pss_cons (ps_asg (pe_tup (pa_cons (pe_mkC mkC Ci.mgC (hr.mono (by decide)) (by rfl) (pa_cons (pv 4) (pa_cons (pv 5) pa_nil))) (pa_cons (pe_cal c__law_ci_inputs (hr.mono (by decide)) (by rfl) (pa_cons (pv 4) pa_nil)) pa_nil))) (pgTupK K 2 rfl rfl (pgs_cons (pg_name (i := 6) sc_law_right.nd rfl (Or.inr rfl) (Or.inl rfl)) (pgs_cons (pg_name (i := 7) sc_law_right.nd rfl (Or.inl rfl) (Or.inr rfl)) pgs_nil)) rfl))
      (pss_cons (ps_if (pt_cmpR (op_neD hr.units) (pe_tup (pa_cons (pe_pcal p_gates Ci.sc (hr.mono (by decide)) (pv 6)) (pa_cons (pe_pcal p_outputs Ci.sc (hr.mono (by decide)) (pv 6)) (pa_cons (pe_pcal p_inputs Ci.sc (hr.mono (by decide)) (pv 6)) pa_nil)))) (pe_tup (pa_cons (pv 4) (pa_cons (pv 5) (pa_cons (pe_callTy call_tuple_of (by rfl) G.tuple (by decide +kernel) (pa_cons (pv 7) pa_nil)) pa_nil)))) (nomark _)) (pss_one (ps_ret pe_bl)) pss_nil)
      (pss_cons (ps_if (PW.pt (pw_or (pt_cmpR (op_neD hr.units) (pe_pcal p_houses Ci.sc (hr.mono (by decide)) (pv 6)) (pe_callTy call_tuple_of (by rfl) G.tuple (by decide +kernel) (pa_cons (pe_lc (own := [("_law_at", 13)]) rfl sc_law_right.nd (pi_list (pv 7)) (blkOk_by (own := [("_law_at", 13)]) (N := N_law_right) (sc := defScope s_law_right) (by decide +kernel)) (fun _ _ _ _ _ => (pg_name (i := 13) sc_law_right.nd rfl (Or.inl rfl) (Or.inr rfl))) (fun _ _ _ _ _ => pts_nil) (fun _ _ _ _ _ => (pe_ix (ixTK K rfl) (pe_ix (ixTK K rfl) (pv 4) (pv 13) (fun _ _ => rfl)) pe_int (fun _ _ => rfl)))) pa_nil)) (nomark _)) (pw_or1 (pt_cmpR (op_neD hr.units) (pe_pcal p_levels Ci.sc (hr.mono (by decide)) (pv 6)) (pe_callTy call_tuple_of (by rfl) G.tuple (by decide +kernel) (pa_cons (pe_lc (own := [("_law_some", 14)]) rfl sc_law_right.nd (pi_list (pe_cal c__law_ci_products (hr.mono (by decide)) (by rfl) (pa_cons (pv 4) pa_nil))) (blkOk_by (own := [("_law_some", 14)]) (N := N_law_right) (sc := defScope s_law_right) (by decide +kernel)) (fun _ _ _ _ _ => (pg_name (i := 14) sc_law_right.nd rfl (Or.inl rfl) (Or.inr rfl))) (fun _ _ _ _ _ => pts_nil) (fun _ _ _ _ _ => (pe_callTy (callTupK K rfl) (by rfl) G.tuple (by decide +kernel) (pa_cons (pv 14) pa_nil)))) pa_nil)) (nomark _))))) (pss_one (ps_ret pe_bl)) pss_nil)
      (pss_cons (ps_for PassesOwn.never rfl (pi_range2 (by rfl) G.range (pa_cons pe_int (pa_cons pe_int pa_nil))) (pg_name (i := 8) sc_law_right.nd rfl (Or.inr rfl) (Or.inl rfl)) (pss_one (ps_if (pt_cmpR (op_neD hr.units) (pe_mcal m_inputs_of Ci.sc (hr.mono (by decide)) (pv 6) (pa_cons (pv 8) pa_nil)) (pe_callTy call_tuple_of (by rfl) G.tuple (by decide +kernel) (pa_cons (pe_lc (own := [("_law_at", 13)]) rfl sc_law_right.nd (pi_list (pv 7)) (blkOk_by (own := [("_law_at", 13)]) (N := N_law_right) (sc := defScope s_law_right) (by decide +kernel)) (fun _ _ _ _ _ => (pg_name (i := 13) sc_law_right.nd rfl (Or.inl rfl) (Or.inr rfl))) (fun _ _ _ _ _ => (pts_one (pt_cmpR op_eq (pe_ix (ixTK K rfl) (pe_ix (ixTK K rfl) (pv 4) (pv 13) (fun _ _ => rfl)) pe_int (fun _ _ => rfl)) (pv 8) (nomark _)))) (fun _ _ _ _ _ => (pv 13))) pa_nil)) (nomark _)) (pss_one (ps_ret pe_bl)) pss_nil)))
      (pss_cons (ps_for PassesOwn.never rfl (pi_range1 (by rfl) G.range (pa_cons pe_int pa_nil)) (pg_name (i := 9) sc_law_right.nd rfl (Or.inl rfl) (Or.inr rfl)) (pss_cons (ps_set (i := 10) sc_law_right.nd rfl (Or.inl rfl) (pe_cal c__law_dr_inputs (hr.mono (by decide)) (by rfl) (pa_cons (pv 0) (pa_cons (pv 1) (pa_cons (pv 4) pa_nil)))))
      (pss_cons (ps_if (pt_cmpR (op_neD hr.units) (pe_mcal m_meaning Ci.sc (hr.mono (by decide)) (pv 6) (pa_cons (pv 1) (pa_cons (pv 10) pa_nil))) (pe_callTy call_tuple_of (by rfl) G.tuple (by decide +kernel) (pa_cons (pe_cal c__law_ci_meaning (hr.mono (by decide)) (by rfl) (pa_cons (pv 1) (pa_cons (pv 4) (pa_cons (pv 10) pa_nil)))) pa_nil)) (nomark _)) (pss_one (ps_ret pe_bl)) pss_nil)
      (pss_one (ps_if (pt_cmpR (op_neD hr.units) (pe_mcal m_told Ci.sc (hr.mono (by decide)) (pv 6) (pa_cons (pv 1) (pa_cons (pv 10) pa_nil))) (pe_callTy call_tuple_of (by rfl) G.tuple (by decide +kernel) (pa_cons (pe_cal c__law_ci_told (hr.mono (by decide)) (by rfl) (pa_cons (pv 1) (pa_cons (pv 4) (pa_cons (pv 5) (pa_cons (pv 10) pa_nil))))) pa_nil)) (nomark _)) (pss_one (ps_ret pe_bl)) pss_nil)))))
      (pss_cons (ps_set (i := 11) sc_law_right.nd rfl (Or.inl rfl) (pe_callB call_len_seq (by rfl) G.len PySem.boot_len (pa_cons (pe_lc (own := [("_law_gate", 15)]) rfl sc_law_right.nd (pi_tup (pv 4)) (blkOk_by (own := [("_law_gate", 15)]) (N := N_law_right) (sc := defScope s_law_right) (by decide +kernel)) (fun _ _ _ _ _ => (pg_name (i := 15) sc_law_right.nd rfl (Or.inl rfl) (Or.inr rfl))) (fun _ _ _ _ _ => (pts_one (pt_cmpR op_eq (pe_ix (ixTK K rfl) (pv 15) pe_int (fun _ _ => rfl)) pe_str (nomark _)))) (fun _ _ _ _ _ => (pv 15))) pa_nil)))
      (pss_cons (ps_if (PW.pt (pw_or (pt_cmpR op_ne (pe_callTy (call_strC oStr (hr.mono (by decide))) (by rfl) G.str (by decide +kernel) (pa_cons (pv 6) pa_nil)) (pe_op op_add_str (pe_op op_add_str (pe_op op_add_str (pe_op op_add_str pe_str (pe_callTy call_str_int (by rfl) G.str (by decide +kernel) (pa_cons (pe_callB call_len_seq (by rfl) G.len PySem.boot_len (pa_cons (pv 4) pa_nil)) pa_nil))) pe_str) (pe_callTy call_str_int (by rfl) G.str (by decide +kernel) (pa_cons (pv 11) pa_nil))) pe_str) (nomark _)) (pw_or1 (pt_cmpR (op_neC oEq Ci (hr.mono (by decide))) (pv 6) (pe_mkC mkC Ci.mgC (hr.mono (by decide)) (by rfl) (pa_cons (pe_pcal p_gates Ci.sc (hr.mono (by decide)) (pv 6)) (pa_cons (pe_pcal p_outputs Ci.sc (hr.mono (by decide)) (pv 6)) pa_nil))) (nomark _))))) (pss_one (ps_ret pe_bl)) pss_nil)
      (pss_cons (ps_set (i := 12) sc_law_right.nd rfl (Or.inl rfl) (pe_mkC mkC Ci.mgC (hr.mono (by decide)) (by rfl) (pa_cons (pe_op op_catT (pv 4) (pe_tup (pa_cons (pe_tup (pa_cons pe_str (pa_cons (pe_cal c__law_roll (hr.mono (by decide)) (by rfl) (pa_cons (pv 0) (pa_cons pe_int pa_nil))) pa_nil))) pa_nil))) (pa_cons (pv 5) pa_nil))))
      (pss_cons (ps_if (PW.pt (pw_or (pt_cmpR (op_eqC oEq (hr.mono (by decide))) (pv 6) (pv 12) (nomark _)) (pw_or1 (pt_cmpR (op_eqC oEq (hr.mono (by decide))) (pv 6) (pe_mkC mkC Ci.mgC (hr.mono (by decide)) (by rfl) (pa_cons (pv 4) (pa_cons (pe_op op_catT (pv 5) (pe_tup (pa_cons (pe_tup (pa_cons pe_int (pa_cons (pe_tup (pa_cons pe_int pa_nil)) pa_nil))) pa_nil))) pa_nil))) (nomark _))))) (pss_one (ps_ret pe_bl)) pss_nil)
      (pss_one (ps_ret (pe_cmpR (op_eqD hr.units) (pe_lc (own := [("_law_value", 16)]) rfl sc_law_right.nd (pi_tup (pe_tup (pa_cons pe_non (pa_cons (pv 4) (pa_cons (pe_tup (pa_cons (pv 4) (pa_cons (pv 5) pa_nil))) (pa_cons pe_str pa_nil)))))) (blkOk_by (own := [("_law_value", 16)]) (N := N_law_right) (sc := defScope s_law_right) (by decide +kernel)) (fun _ _ _ _ _ => (pg_name (i := 16) sc_law_right.nd rfl (Or.inl rfl) (Or.inr rfl))) (fun _ _ _ _ _ => (pts_one (pt_cmpR (opEqCK rfl rfl rfl rfl rfl oEq (hr.mono (by decide))) (pv 6) (pv 16) (nomark _)))) (fun _ _ _ _ _ => (pv 16))) (pe_lst pa_nil) (nomark _)))))))))))))))), ?_⟩
    -- the hall
    refine q_asgG (R := HallV) (evp_callR (R := fun vs _ => ∃ z : Str, vs = [.ref d, .str z]) ((ear_cons exs_ref (evp_var rfl fun _ _ => rfl) (ear_cons (R1 := fun v _ => ∃ z : Str, v = .str z) (fun _ _ _ _ h => h) ((evp_pickT (ks := [(), ()]) sp_steady (ev_var rfl) hd (el_lstT sp_steady (eat_cons sp_steady (evp_of ev_c fun _ _ => ⟨_, rfl⟩) (eat_cons sp_steady (evp_of ev_c fun _ _ => ⟨_, rfl⟩) eat_nil)) (by decide)) (by decide) (by decide)).imp fun v H1 e h => by
        obtain ⟨_, _, h⟩ := h
        exact h) ear_nil)).imp fun vs H1 e h => by
        obtain ⟨v, ws, rfl, rfl, v2, ws2, rfl, ⟨z, rfl⟩, rfl⟩ := h
        exact ⟨z, rfl⟩) fun vs H1 e h => ?h1) fun v H1 e1 hv => ?_
    case h1 =>
      obtain ⟨z, rfl⟩ := h
      exact spp_hall (hd.ex e)
    obtain ⟨p, h, m, ⟨q, rfl, hq⟩, hp, hh1, hh9⟩ := hv
    refine ⟨q, _, rfl, st_of hq, rfl, _, _, rfl, _, _, rfl, _, _, rfl, rfl, ?_⟩
    have hd1 := hd.ex e1
    clear hq
    -- the gates
    have hroll : ∀ (σ : L2.St) (n : Nat), σ[0]? = some (some (.ref d)) → 1 ≤ n → n < 1000 → EvP (tCall spRoll [] E0 (tCons (tVar 0) (tCons (tC (ni n)) tNil))) σ H1 (VN fun r => r < n) := fun σ n h0 h1 h2 => evp_cal (ea_cons (ev_var h0) (ea_cons ev_c ea_nil)) (spp_roll hd1 h1 (by omega))
    refine q_asgP (R := GsV 23) (evp_callR (R := fun vs _ => ∃ a b : Nat, vs = [.ref d, ni p, ni h, ni a, ni b] ∧ a < 20 ∧ b < 7) ((ear_cons (R1 := fun v _ => v = .ref d) (fun _ _ _ _ h => h) (evp_var rfl fun _ _ => rfl) (ear_cons (R1 := fun v _ => v = ni p) (fun _ _ _ _ h => h) (evp_var rfl fun _ _ => rfl) (ear_cons (R1 := fun v _ => v = ni h) (fun _ _ _ _ h => h) (evp_var rfl fun _ _ => rfl)
      (ear_cons exs_vn (hroll _ 20 rfl (by decide) (by decide)) (ear_cons exs_vn (hroll _ 7 rfl (by decide) (by decide)) ear_nil))))).imp fun vs H2 e h => ?h2) fun vs H2 e h => ?h3) fun v H2 e2 hv => ?_
    case h2 =>
      obtain ⟨_, _, rfl, rfl, _, _, rfl, rfl, _, _, rfl, rfl, _, _, rfl, ⟨a, rfl, ha⟩, _, _, rfl, ⟨b, rfl, hb⟩, rfl⟩ := h
      exact ⟨a, b, rfl, ha, hb⟩
    case h3 =>
      obtain ⟨a, b, rfl, ha, hb⟩ := h
      exact spp_drGs (hd1.ex e) hp hh1 hh9 (by omega) (by omega)
    obtain ⟨ga, gs, rfl, hg2, hgi⟩ := hv
    have okg : OkGs gs := hgi.done (by decide) (by decide) (by decide)
    have l1 := hgi.ne
    have l23 := hgi.le
    have hd2 := hd1.ex e2
    -- the outputs
    refine q_asgP (R := OsV gs.length) (evp_cal (ea_cons (ev_var rfl) (ea_cons (ev_var rfl) (ea_cons (ev_var rfl) ea_nil))) (spp_drO hd2 hg2 l1 (by omega) hh1 hh9)) fun v H3 e3 hv => ?_
    obtain ⟨oa, os, rfl, ho3, ol1, oi⟩ := hv
    have ol3 := oi.le
    have oko : OkOs gs.length os := ⟨ol1, by omega, oi.ok⟩
    have hg3 := hg2.ex e3
    -- the circuit
    refine q_asgG (evp_tupPL (R1 := fun v H => ∃ c, v = .ref c ∧ Cir C H c gs os) (fun v H H' e h => ?h4) (evp_mkC (ea_cons (ev_var rfl) (ea_cons (ev_var rfl) ea_nil)) hg3 ho3 okg oko) (el_cal (ea_cons (ev_var rfl) ea_nil) (spl_idx hg3 (by omega)))) fun v H4 e4 hv => ?_
    case h4 =>
      obtain ⟨c, rfl, hc⟩ := h
      exact ⟨c, rfl, hc.ex e⟩
    obtain ⟨t, _, l, rfl, ht, ⟨c, rfl, hc4⟩, hl4⟩ := hv
    refine ⟨t, _, rfl, st_of ht, rfl, _, _, rfl, _, _, rfl, rfl, ?_⟩
    have fx4 : Fx C H4 d ga oa c l f gs os := ⟨(hd2.ex e3).ex e4, hg3.ex e4, ho3.ex e4, hc4, hl4⟩
    have eH4 : Ex H H4 := ((e1.trans e2).trans e3).trans e4
    clear ht
    -- gates, outputs, inputs
    refine q_when (b := false) (et_test (ev_nePs (d := .tuple [gsD gs, osD os, nisD (idx gs)]) (evp_tupD (eap_cons ((evp_prop (ev_var rfl) fx4.c.at_ (spp_prop fx4.c)).imp fun v H5 e h => by
        obtain ⟨a, rfl, h⟩ := h
        exact dp_gs h) (eap_cons ((evp_prop (ev_var rfl) fx4.c.at_ (spp_prop fx4.c)).imp fun v H5 e h => by
        obtain ⟨a, rfl, h⟩ := h
        exact dp_os h) (eap_cons ((evp_prop (ev_var rfl) fx4.c.at_ (spp_prop fx4.c)).imp fun v H5 e h => tupV_dp h) eap_nil))) (Nat.le_of_ble_eq_true rfl))
      (evp_tupD (eap_cons (evp_dp (ev_var rfl) (dp_gs fx4.g)) (eap_cons (evp_dp (ev_var rfl) (dp_os fx4.o)) (eap_cons (evp_nis (eu_tupL (ev_var rfl) (sq_of fx4.l))) eap_nil))) (Nat.le_of_ble_eq_true rfl))
      (sh_tup (sh_cons ((sh_gs gs).mono (by decide)) (sh_cons ((sh_os os).mono (Nat.le_refl 3)) (sh_cons ((sh_nis _).mono (by decide)) sh_nil)))) (by decide))) (fun h => nomatch h) fun _ H5 e5 => ?_
    have fx5 := fx4.ex e5
    obtain ⟨gv, gv1, gv2, gv3⟩ := fx5.g.at_
    have hT5 := SqT.of (K := K) gv1
    have hat : ∀ (σ : L2.St) H6 (n : Nat), Ex H5 H6 → σ[4]? = some (some (.ref ga)) → σ[13]? = some (some (ni n)) → n ∈ idx gs → Ev (tOp (rIxT K) (tOp (rIxT K) (tVar 4) (tVar 13)) (tC (.int 1))) σ H6 (ni (gs.getD n (.con 0)).house) := fun σ H6 n e6 h4 h13 hn => by
      obtain ⟨hn1, kk, hk⟩ := idx_mem hn
      obtain ⟨p, g, hv, hgi, hp⟩ := gv3 n _ (List.getElem?_eq_getElem (by omega))
      rw [hk] at hgi
      cases hgi
      rw [getD_of hk]
      exact ev_op (ev_op (ev_var h4) (ev_var h13) (rv_ixT (ex_t e6 hT5) (atI_nat (by rw [List.getElem?_eq_getElem (by omega), hv])))) ev_c (rv_ixT (SqT.of (e6 _ _ hp)) rfl)
    have hidl : (idx gs).length ≤ 60 := by
      have := List.length_filter_le (inAt gs) (List.range gs.length)
      rw [List.length_range] at this
      unfold idx
      omega
    -- houses, levels
    have h13 : ∀ (ws : List Nat) {i : Nat} {x : V}, (nis ws)[i]? = some x → x = ni (ws.getD i 0) ∧ ws.getD i 0 ∈ ws := fun ws i x hx => by
      obtain ⟨n, hn, rfl⟩ := nis_at hx
      rw [getD_of hn]
      exact ⟨rfl, List.mem_of_getElem? hn⟩
    refine q_when (b := false) (et_or (a := false) (b := false) (et_test (ev_nePs (d := nisD (housesOf gs)) ((evp_prop (ev_var rfl) fx5.c.at_ (spp_prop fx5.c)).imp fun v H5 e h => tupV_dp h)
      (evp_nis (eu_tupN (el_is (el_lcL (xs := nis (idx gs)) (fun _ => true) (fun i => ni (gs.getD ((idx gs).getD i 0) (.con 0)).house) (ev_var rfl) (sq_of fx5.l) (by rw [nis_len]; omega) (fun _ => rfl) (fun _ _ _ _ _ => et_yes) fun i x H6 e6 hx _ => ?h5) ?h6))) (sh_nis _) (by decide)))
      fun _ => et_test (ev_nePs (d := nssD (prodss gs)) (evp_prop (ev_var rfl) fx5.c.at_ (spp_prop fx5.c)) (el_tups (K := K) (evp_cal (ea_cons (ev_var rfl) ea_nil) (spp_ciP fx5.g okg)) ?h7 (fun _ => rfl) (fun _ => rfl)) (sh_nss _) (by decide))) (fun h => nomatch h) fun _ H6 e6 => ?_
    case h5 =>
      obtain ⟨rfl, hm⟩ := h13 _ hx
      exact hat _ H6 _ e6 rfl rfl hm
    case h6 =>
      rw [nis_len]
      refine (given_of (idx gs) 0 (fun _ => true) (fun i => ni (gs.getD i (.con 0)).house)).trans ?_
      rw [List.filter_eq_self.mpr (fun _ _ => rfl), ← houses_idx, nis, List.map_map]
      rfl
    case h7 =>
      rw [prodss, List.length_map, List.length_range]
      have := maxOf_le (fun n (h : n ∈ lvs gs) => lvs_le h)
      omega
    have fx6 := fx5.ex e6
    have eH6 := (eH4.trans e5).trans e6
    have hT6 := ex_t e6 hT5
    -- inputs of each house
    refine q_forR2 (lo := 1) (n := 10) (ea_cons ev_c (ea_cons ev_c ea_nil)) (by omega) (fun i σ' H' => ∃ o8, σ' = [some (.ref d), some (ni p), some (ni h), some (ni m), some (.ref ga), some (.ref oa), some (.ref c), some (.ref l), o8, none, none, none, none, none, none, none, none] ∧ Ex H6 H') (fun H7 e7 => ⟨none, rfl, e7⟩) (fun i σ' H' hi hP => ?m1) fun σ' H' hP => ?m2
    case m1 =>
      obtain ⟨o8, rfl, e⟩ := hP
      have fx := fx6.ex e
      refine s_when (b := false) (et_test (ev_nePs (d := nisD (idxOf gs (1 + i))) ((evp_meth (ev_var rfl) fx.c.at_ (ea_cons (ev_var rfl) ea_nil) (spp_in (h := 1 + i) (by omega) (by omega) fx.c)).imp fun v H e h => tupV_dp h)
        (evp_nis (eu_tupN (el_is (el_lcL (xs := nis (idx gs)) (fun j => decide ((gs.getD ((idx gs).getD j 0) (.con 0)).house = 1 + i)) (fun j => ni ((idx gs).getD j 0)) (ev_var rfl) (sq_of fx.l) (by rw [nis_len]; omega) (fun _ => rfl) (fun j x H7 e7 hx => ?h8) fun j x H7 e7 hx _ => ?h9) ?h10))) (sh_nis _) (by decide))) (fun h => nomatch h) fun _ H7 e7 => ⟨_, rfl, e.trans e7⟩
      case h8 =>
        obtain ⟨rfl, hm⟩ := h13 _ hx
        refine et_is (et_test (ev_op (hat _ H7 _ ((e6.trans e).trans e7) rfl rfl hm) (ev_var rfl) (rv_eq rfl))) (decide_eq_decide.mpr ⟨fun z => ?_, fun z => ?_⟩)
        · have z := V.int.inj z
          omega
        · rw [z]
          rfl
      case h9 =>
        obtain ⟨rfl, hm⟩ := h13 _ hx
        exact ev_var rfl
      case h10 =>
        rw [nis_len]
        exact given_of (idx gs) 0 (fun n => decide ((gs.getD n (.con 0)).house = 1 + i)) ni
    case m2 =>
    obtain ⟨o8, rfl, e7⟩ := hP
    -- meanings
    refine q_forR1 (n := 3) (ea_cons ev_c ea_nil) (by omega) (fun i σ' H' => ∃ o8 o9 o10, σ' = [some (.ref d), some (ni p), some (ni h), some (ni m), some (.ref ga), some (.ref oa), some (.ref c), some (.ref l), o8, o9, o10, none, none, none, none, none, none] ∧ Ex H6 H') (fun H7 e8 => ⟨_, none, none, rfl, e7.trans e8⟩) (fun i σ' H' hi hP => ?m3) fun σ' H' hP => ?m4
    case m3 =>
      obtain ⟨o8, o9, o10, rfl, e⟩ := hP
      have fx := fx6.ex e
      refine q_asgP (evp_cal (ea_cons (ev_var rfl) (ea_cons (ev_var rfl) (ea_cons (ev_var rfl) ea_nil))) (spp_drI fx.d hp fx.g okg)) fun v H8 e8 hv => ?_
      obtain ⟨na, ns, rfl, hns⟩ := hv
      have fx8 := fx.ex e8
      refine q_when (b := false) (et_test (ev_nePs (d := nisD (means p ns gs)) ((evp_meth (ev_var rfl) fx8.c.at_ (ea_cons (ev_var rfl) (ea_cons (ev_var rfl) ea_nil)) (spp_mean fx8.c hns)).imp fun v H e h => tupV_dp h)
        (evp_nis (eu_tupN (el_cal (ea_cons (ev_var rfl) (ea_cons (ev_var rfl) (ea_cons (ev_var rfl) ea_nil))) (spl_ciM fx8.g okg hns)))) (sh_nis _) (by decide))) (fun h => nomatch h) fun _ H9 e9 => ?_
      have fx9 := fx8.ex e9
      have hns9 := hns.ex e9
      exact s_when (b := false) (et_test (ev_nePs (d := nisD (toldOf p ns gs os)) ((evp_meth (ev_var rfl) fx9.c.at_ (ea_cons (ev_var rfl) (ea_cons (ev_var rfl) ea_nil)) (spp_mean (R := fun f ns gs os => TupV (nis (toldOf f ns gs os))) fx9.c hns9)).imp fun v H e h => tupV_dp h)
        (evp_nis (eu_tupN (el_cal (ea_cons (ev_var rfl) (ea_cons (ev_var rfl) (ea_cons (ev_var rfl) (ea_cons (ev_var rfl) ea_nil)))) (spl_ciT fx9.g okg fx9.o oko hns9)))) (sh_nis _) (by decide))) (fun h => nomatch h) fun _ H10 e10 => ⟨_, _, _, rfl, ((e.trans e8).trans e9).trans e10⟩
    case m4 =>
    obtain ⟨o8', o9, o10, rfl, e8⟩ := hP
    have fx8 := fx6.ex e8
    have hT8 := ex_t e8 hT6
    -- how many products
    refine q_asg (len_filter (K := K) (p := Ec.G.isPro) gv2 (ev_var rfl) hT8 (by omega) (fun _ => rfl) (fun i x H9 e9 hx => ?h11) fun i x H9 e9 hx => ev_var rfl) fun H9 e9 => ?_
    case h11 =>
      obtain ⟨q, g, rfl, hgi, hq⟩ := gv3 i x hx
      refine et_w (ev_var rfl) (SqT.of (((e6.trans e8).trans e9) _ _ hq)) ?_
      rw [getD_of hgi]
      exact w_pro g
    have fx9 := fx8.ex e9
    have hT9 := ex_t e9 hT8
    have l12 := okg.pro
    have b1 := small_int (n := gs.length) (by omega)
    have b2 := small_int (n := gs.countP Ec.G.isPro) (by omega)
    have c1 : ("circuit of " : Str).length = 11 := by decide +kernel
    have c2 : (" gates, " : Str).length = 8 := by decide +kernel
    have c3 : (" products" : Str).length = 9 := by decide +kernel
    refine q_when (b := false) (et_or (a := false) (b := false) (et_test (ev_is (ev_op (ev_strC (ev_var rfl) fx9.c) (ev_addS (ev_addS (ev_addS (ev_addS ev_c (ev_strI (ev_is (ev_lenT (ev_var rfl) hT9) (by rw [gv2]; rfl : _ = ni gs.length)) (by omega)) (by omega)) ev_c (by rw [len_app]; omega)) (ev_strI (ev_var rfl) (by omega)) (by rw [len_app, len_app]; omega)) ev_c (by rw [len_app, len_app, len_app]; omega)) (rv_ne rfl)) ?h12))
      fun _ => et_test (ev_ownNe (b := true) (ev_var rfl) fx9.c (evp_mkR ((ear_cons (R1 := fun v H => ∃ ga, v = .ref ga ∧ GatesAt H ga gs) (fun v H H' e h => ?h14) (evp_prop (ev_var rfl) fx9.c.at_ (spp_prop fx9.c)) (ear_cons (R1 := fun v H => ∃ oa, v = .ref oa ∧ OutsAt H oa os) (fun v H H' e h => ?h15) (evp_prop (ev_var rfl) fx9.c.at_ (spp_prop fx9.c)) ear_nil)).imp fun vs H2 e h => ?h16) okg oko)
        (eq_cir fx9.c (by rw [eqv_self (sh_gs gs), eqv_self (sh_os os)]; rfl)))) (fun h => nomatch h) fun _ H10 e10 => ?_
    case h12 =>
      refine congrArg V.bl ?_
      exact congrArg (fun b => !b) (decide_eq_true (p := V.str (cStr gs.length (gs.countP Ec.G.isPro)) = V.str (cStr gs.length (gs.countP Ec.G.isPro))) rfl)
    case h14 =>
      obtain ⟨a, rfl, h⟩ := h
      exact ⟨a, rfl, h.ex e⟩
    case h15 =>
      obtain ⟨a, rfl, h⟩ := h
      exact ⟨a, rfl, h.ex e⟩
    case h16 =>
      obtain ⟨_, _, rfl, ⟨a, rfl, h1⟩, _, _, rfl, ⟨b, rfl, h2⟩, rfl⟩ := h
      exact ⟨a, b, rfl, h1, h2⟩
    have fx10 := fx9.ex e10
    -- another circuit
    refine q_asgP (evp_mkX (Pi := fun n => n ≤ 996) (gsf := fun n => gs ++ [Ec.G.con n]) (os := os) ((ear_cons (R1 := fun v H => ∃ n, n ≤ 996 ∧ ∃ a, v = .ref a ∧ GatesAt H a (gs ++ [Ec.G.con n])) (fun v H H' e h => ?h17) (evp_more (K := K) (ev_var rfl) fx10.g l1 (by omega) (evp_cal (ea_cons (ev_var rfl) (ea_cons (ev_c : Ev (tC (.int 997)) _ _ (ni 997)) ea_nil)) (spp_roll fx10.d (by decide) (by decide))))
      (ear_cons (R1 := fun v H => ∃ oa, v = .ref oa ∧ OutsAt H oa os) (fun v H H' e h => ?h18) (evp_of (ev_var rfl) fun H2 e2 => ⟨oa, rfl, fx10.o.ex e2⟩) ear_nil)).imp fun vs H2 e h => ?h19) (fun n hn => (hgi.snoc (g := .con n) hn).done (by decide) (by show 4 + 0 ≤ 8; decide) (by show 6 + 0 ≤ 12; decide)) (fun n hn => oko_mono oko (by rw [List.length_append]; exact Nat.le_add_right _ _))) fun v H11 e11 hv => ?_
    case h17 =>
      obtain ⟨n, hn, a, rfl, h⟩ := h
      exact ⟨n, hn, a, rfl, h.ex e⟩
    case h18 =>
      obtain ⟨a, rfl, h⟩ := h
      exact ⟨a, rfl, h.ex e⟩
    case h19 =>
      obtain ⟨_, _, rfl, ⟨n, hn, a, rfl, h1⟩, _, _, rfl, ⟨b, rfl, h2⟩, rfl⟩ := h
      exact ⟨n, hn, a, b, rfl, h1, h2⟩
    obtain ⟨n, b, hn, rfl, hcb⟩ := hv
    have fx11 := fx10.ex e11
    refine q_when (b := false) (et_or (a := false) (b := false) (et_test (ev_ownEq (b := false) (ev_var rfl) fx11.c (evp_of (P := fun v H2 => ∃ a, v = .ref a ∧ Cir C H2 a (gs ++ [Ec.G.con n]) os) (ev_var rfl) fun H2 e2 => ⟨b, rfl, hcb.ex e2⟩) (eq_cir fx11.c (by rw [eqv_gs_more]; rfl))))
      fun _ => et_test (ev_ownEq (b := false) (ev_var rfl) fx11.c (evp_mkR ((ear_cons (R1 := fun v H => ∃ ga, v = .ref ga ∧ GatesAt H ga gs) (fun v H H' e h => ?h20) (evp_of (ev_var rfl) fun H2 e2 => ⟨ga, rfl, fx11.g.ex e2⟩) (ear_cons (R1 := fun v H => ∃ oa, v = .ref oa ∧ OutsAt H oa (os ++ [(0, [9])])) (fun v H H' e h => ?h21) (evp_moreO (K := K) (ev_var rfl) fx11.o ol1 (by omega)) ear_nil)).imp fun vs H2 e h => ?h22) okg (oko_more oko ol3 l1))
        (eq_cir fx11.c (by rw [eqv_os_more, Bool.and_false])))) (fun h => nomatch h) fun _ H12 e12 => ?_
    case h20 =>
      obtain ⟨a, rfl, h⟩ := h
      exact ⟨a, rfl, h.ex e⟩
    case h21 =>
      obtain ⟨a, rfl, h⟩ := h
      exact ⟨a, rfl, h.ex e⟩
    case h22 =>
      obtain ⟨_, _, rfl, ⟨a, rfl, h1⟩, _, _, rfl, ⟨b, rfl, h2⟩, rfl⟩ := h
      exact ⟨a, b, rfl, h1, h2⟩
    have fx12 := fx11.ex e12
    have hga : ∀ H', Ex H12 H' → EqV () (.ref ga) H' := fun H' e => by
      obtain ⟨vs, h1, _⟩ := (fx12.g.ex e).at_
      exact .inr (.inl ⟨ga, vs, rfl, h1⟩)
    -- what is no circuit
    refine s_ret (v := .bl true) (ev_eqPs (d := .list []) ((elp_of (el_lcUP (xs := []) (R := Told EqV [(), (), (), ()]) (eu_tupT eqV_steady (eat_cons eqV_steady (evp_of ev_c fun _ _ => .inl rfl) (eat_cons eqV_steady (evp_of (ev_var rfl) hga) (eat_cons eqV_steady ((evp_U (eu_tup (ea_cons (ev_var rfl) (ea_cons (ev_var rfl) ea_nil)) (Nat.le_of_ble_eq_true rfl))).imp fun v H2 e h => ?h23) (eat_cons eqV_steady (evp_of ev_c fun _ _ => .inr (.inr ⟨_, rfl⟩)) eat_nil)))) (by decide))
      fun q vs H13 e13 hq ht => el_is (el_lcT (K := K) (xs := vs) (fun _ => false) (fun _ => .non) ev_c (st_of hq) (by rw [ht.1]; decide) (fun _ => rfl) (fun i x H14 e14 hx => ?h24) (fun _ _ _ _ _ h => nomatch h)) (by rw [ht.1]; rfl))).dp []) ((elp_of (el_lst ea_nil (by decide))).dp []) (sh_lst sh_nil : Sh 1 (.list [])) (by decide)) fun H15 e15 => k H15 ((((((((eH6.trans e8).trans e9).trans e10).trans e11).trans e12).trans e15)))
    case h23 =>
      obtain ⟨p, rfl, hp⟩ := h
      exact .inr (.inl ⟨p, _, rfl, hp⟩)
    case h24 =>
      have fx := (fx12.ex e13).ex e14
      have hi : i < 4 := by
        have := (List.getElem?_eq_some_iff.mp hx).1
        rw [ht.1] at this
        exact this
      have hv := ht.2 i () x (by
        match i, hi with
        | 0, _ => rfl
        | 1, _ => rfl
        | 2, _ => rfl
        | 3, _ => rfl) hx
      refine et_test (ev_ownEq (b := false) (ev_var rfl) fx.c (evp_of (P := fun v _ => v = x) (ev_var rfl) fun _ _ => rfl) ?_)
      rcases hv with rfl | ⟨q2, xs2, rfl, hq2⟩ | ⟨z, rfl⟩
      · exact eq_no fx.c (fun H1 _ => .base .non) Ci.kn Ci.nn
      · exact eq_no fx.c (fun H1 e => ty_tup (e14 _ _ hq2) H1 e) Ci.kt Ci.nt
      · exact eq_no fx.c (fun H1 _ => ty_str z H1) Ci.ks Ci.ns
end
end Ec
set_option maxRecDepth 100000
set_option maxHeartbeats 8000000
/-! the law -/
namespace Ec
open PySem PySem.Spec PyProof.Rows L2 Evl SlX
def gs1 : List G := [.inp 2, .inp 1, .sum 0 1, .pro 2 1, .mul 3 6]
def os1 : List (Nat × List Nat) := [(4, [1, 3])]
def gs2 : List G := [.con 996]
def os2 : List (Nat × List Nat) := [(0, [1])]
theorem ok_gs1 : OkGs gs1 := ⟨by decide, by decide, fun i g h => by
  match i, h with
  | 0, h => cases h; exact ⟨by decide, by decide⟩
  | 1, h => cases h; exact ⟨by decide, by decide⟩
  | 2, h => cases h; exact ⟨by decide, by decide⟩
  | 3, h => cases h; exact ⟨by decide, by decide⟩
  | 4, h => cases h; exact ⟨by decide, by decide⟩, by decide, by decide⟩
theorem ok_gs2 : OkGs gs2 := ⟨by decide, by decide, fun i g h => by
  match i, h with
  | 0, h => cases h; exact (by decide : 996 ≤ 996), by decide, by decide⟩
theorem ok_os1 : OkOs gs1.length os1 := ⟨by decide, by decide, fun o h => by
  rw [List.mem_singleton.mp h]
  exact ⟨by decide, fun z => (nomatch z), by decide, by decide, by decide⟩⟩
theorem ok_os2 : OkOs gs2.length os2 := ⟨by decide, by decide, fun o h => by
  rw [List.mem_singleton.mp h]
  exact ⟨by decide, fun z => (nomatch z), by decide, by decide, by decide⟩⟩
theorem e_idx1 : idx gs1 = [0, 1] := by decide
theorem e_hou1 : housesOf gs1 = [2, 1] := by decide
theorem e_pro1 : prodss gs1 = [[3]] := by decide
theorem e_mea1 : means 5 [3, 4] gs1 = [3, 4, 2, 3, 3] := by decide
theorem e_tol1 : toldOf 7 [3, 4] gs1 os1 = [0] := by decide
theorem e_in2 : idxOf gs1 2 = [0] := by decide
theorem e_in9 : idxOf gs1 9 = [] := by decide
theorem e_mea2 : means 5 [] gs2 = [1] := by decide
theorem e_pro2 : prodss gs2 = [] := by decide
theorem e_idx2 : idx gs2 = [] := by decide
theorem e_str2 : cStr gs2.length (gs2.countP G.isPro) = "circuit of 1 gates, 0 products" := by decide +kernel
section
variable {K : PySem.W.Frag} {σ : L2.St} {H : Hp} {te ta : TE} {tas : TA}
theorem evp_UP {R : List V → Hp → Prop} (h : EvUP te σ H R) : EvP te σ H (fun v H => ∃ p vs, v = .ref p ∧ H p = some (.tup vs) ∧ R vs H) := fun H1 e Q q => h H1 e Q fun p vs H2 hp e2 h2 hr => q _ H2 e2 ⟨p, vs, rfl, h2, hr⟩
theorem evp_methR {a C : Addr} {gs : List G} {os : List (Nat × List Nat)} {sp : Sp} {R : List V → Hp → Prop} {R' : V → Hp → Prop} (ha : Ev ta σ H (.ref a)) (hc : CirAt C H a gs os) (hv : EvAR tas σ H R) (hs : ∀ vs H1, Ex H H1 → R vs H1 → SpP sp (.ref a :: vs) H1 R') : EvP (tMethSl C sp E0 ta tas) σ H R' := fun H1 e Q q =>
  ha H1 e _ fun H2 e2 => by
    obtain ⟨dx, ga, oa, h1, _, _⟩ := hc.ex (e.trans e2)
    exact ⟨a, dx, _, rfl, h1, hv H2 (e.trans e2) _ fun vs H3 e3 hr => hs vs H3 ((e.trans e2).trans e3) hr H3 (Ex.refl H3) Q (fun v H4 e4 hv => q v H4 ((e2.trans e3).trans e4) hv) E0⟩
theorem ear_nums {f : Nat} {ns : List Nat} (hu : EvU te σ H (nis ns)) : EvAR (tCons (tC (ni f)) (tCons te tNil)) σ H (fun vs H => ∃ a, vs = [ni f, .ref a] ∧ H a = some (.tup (nis ns))) :=
  ((ear_cons (R1 := fun v _ => v = ni f) (fun _ _ _ _ h => h) (evp_of ev_c fun _ _ => rfl) (ear_cons (R1 := TupV (nis ns)) (fun v H H' e h => tupV_steady (fun _ : Unit => nis ns) () _ _ _ (ext_of e) h) (evp_U hu) ear_nil)).imp fun vs H2 e h => by
    obtain ⟨_, _, rfl, rfl, _, _, rfl, ⟨p, rfl, hp⟩, rfl⟩ := h
    exact ⟨p, rfl, hp⟩)
theorem ear_mk {tg to : TE} {gs : List G} {os : List (Nat × List Nat)} (h1 : EvUP tg σ H (Told GT gs)) (h2 : EvUP to σ H (Told OT os)) : EvAR (tCons tg (tCons to tNil)) σ H (MkA gs os) :=
  (ear_cons (R1 := fun v H => ∃ a, v = .ref a ∧ GatesAt H a gs) (fun v H H' e h => by
    obtain ⟨a, rfl, h⟩ := h
    exact ⟨a, rfl, h.ex e⟩) ((evp_UP h1).imp fun v H2 e h => by
    obtain ⟨p, vs, rfl, hp, ht⟩ := h
    exact ⟨p, rfl, gates_of hp ht⟩) (ear_cons (R1 := fun v H => ∃ a, v = .ref a ∧ OutsAt H a os) (fun v H H' e h => by
    obtain ⟨a, rfl, h⟩ := h
    exact ⟨a, rfl, h.ex e⟩) ((evp_UP h2).imp fun v H2 e h => by
    obtain ⟨p, vs, rfl, hp, ht⟩ := h
    exact ⟨p, rfl, outs_of hp ht⟩) ear_nil)).imp fun vs H2 e h => by
    obtain ⟨_, _, rfl, ⟨a, rfl, h1⟩, _, _, rfl, ⟨b, rfl, h2⟩, rfl⟩ := h
    exact ⟨a, b, rfl, h1, h2⟩
theorem evp_o {g : Nat} {hs : List Nat} (h : EvU te σ H (nis hs)) : EvP (tTup (tCons (tC (ni g)) (tCons te tNil))) σ H (OT (g, hs)) := fun H1 e Q q =>
  h H1 e _ fun b H2 hb e2 hb2 => ⟨sz_of (Nat.le_of_ble_eq_true rfl), fun p hp => q _ _ (e2.trans (Ex.new hp)) ⟨p, rfl, b, upd_same, Ex.new hp _ _ hb2⟩⟩
end
section
variable {P : Program} {w : World} {K : PySem.W.Frag} {mg : Str → Option Value} {base : Heap} {C : Addr}
abbrev s_law : Stmt := top 60
abbrev N_law : List Str := ["_law_script", "_law_spot", "_law_dice_here", "_law_some", "_law_told", "_law_lone"]
theorem sc_law : FnScope N_law ["_law_script"] (defScope s_law) := ⟨rfl, rfl, rfl, by decide +kernel, rfl, by decide +kernel, by decide +kernel⟩
def spLaw (K : PySem.W.Frag) : Sp := fun vs H Q _ => ∃ (a : Addr) (ns : List Int), vs = [.ref a] ∧ SqL K H a (ns.map V.int) ∧ ns.length ≤ 63 ∧ ∀ H', Q (.bl true) H'
theorem ok_law (G0 : Glo mg) (Ci : CiF K mg C) (CX : CiX P w K mg base C) (c__law_dice : Cal P w K mg base 1 "_law_dice" ["_law_script", "_law_spot"] (spDice K)) (c__law_right : Cal P w K mg base 9 "_law_right" ["_law_dice_here"] spRight)
    {f : Addr} {fd : FuncData} (F : Fun K "law" "law" s_law f fd) : FnOk P w K mg base CX0 10 f fd ["_law_script"] (spLaw K) := by
  have G := G0
  obtain ⟨mkC, p_gates, p_outputs, p_inputs, p_houses, p_levels, m_inputs_of, m_meaning, m_told, oEq, oStr⟩ := CX
  refine F.ok sc_law (fun vs H Q E h => ?_) (fun cdv A outer s H vs Q E hr h => ?_)
  · obtain ⟨a, ns, rfl, _⟩ := h
    rfl
  · obtain ⟨a, ns, rfl, hs, hl63, k⟩ := h
    refine ⟨_, (pss_cons (ps_for PassesOwn.never rfl (pi_range1 (by rfl) G.range (pa_cons (pe_callB (call_max2 rfl) (by rfl) G.max (by decide +kernel) (pa_cons pe_int (pa_cons (pe_callB (call_min2 rfl) (by rfl) G.min (by decide +kernel) (pa_cons pe_int (pa_cons (pe_callB call_len_seq (by rfl) G.len PySem.boot_len (pa_cons (pv 0) pa_nil)) pa_nil))) pa_nil))) pa_nil)) (pg_name (i := 1) sc_law.nd rfl (Or.inl rfl) (Or.inr rfl)) (pss_cons (ps_set (i := 2) sc_law.nd rfl (Or.inl rfl) (pe_cal c__law_dice (hr.mono (by decide)) (by rfl) (pa_cons (pv 0) (pa_cons (pv 1) pa_nil))))
      (pss_one (ps_if (PW.pt (pw_or (pt_not (pt_val (pe_cal c__law_right (hr.mono (by decide)) (by rfl) (pa_cons (pv 2) pa_nil)))) (pw_or1 (pt_not (pt_val (pe_cal c__law_right (hr.mono (by decide)) (by rfl) (pa_cons (pv 2) pa_nil))))))) (pss_one (ps_ret pe_bl)) pss_nil))))
      (pss_cons (ps_set (i := 3) sc_law.nd rfl (Or.inl rfl) (pe_mkC mkC Ci.mgC (hr.mono (by decide)) (by rfl) (pa_cons (pe_tup (pa_cons (pe_tup (pa_cons pe_str (pa_cons pe_int pa_nil))) (pa_cons (pe_tup (pa_cons pe_str (pa_cons pe_int pa_nil))) (pa_cons (pe_tup (pa_cons pe_str (pa_cons pe_int (pa_cons pe_int pa_nil)))) (pa_cons (pe_tup (pa_cons pe_str (pa_cons pe_int (pa_cons pe_int pa_nil)))) (pa_cons (pe_tup (pa_cons pe_str (pa_cons pe_int (pa_cons pe_int pa_nil)))) pa_nil)))))) (pa_cons (pe_tup (pa_cons (pe_tup (pa_cons pe_int (pa_cons (pe_tup (pa_cons pe_int (pa_cons pe_int pa_nil))) pa_nil))) pa_nil)) pa_nil))))
      (pss_cons (ps_set (i := 4) sc_law.nd rfl (Or.inl rfl) (pe_lst (pa_cons (pe_pcal p_inputs Ci.sc (hr.mono (by decide)) (pv 3)) (pa_cons (pe_pcal p_houses Ci.sc (hr.mono (by decide)) (pv 3)) (pa_cons (pe_pcal p_levels Ci.sc (hr.mono (by decide)) (pv 3)) (pa_cons (pe_mcal m_meaning Ci.sc (hr.mono (by decide)) (pv 3) (pa_cons pe_int (pa_cons (pe_tup (pa_cons pe_int (pa_cons pe_int pa_nil))) pa_nil))) (pa_cons (pe_mcal m_told Ci.sc (hr.mono (by decide)) (pv 3) (pa_cons pe_int (pa_cons (pe_tup (pa_cons pe_int (pa_cons pe_int pa_nil))) pa_nil))) (pa_cons (pe_mcal m_inputs_of Ci.sc (hr.mono (by decide)) (pv 3) (pa_cons pe_int pa_nil)) (pa_cons (pe_mcal m_inputs_of Ci.sc (hr.mono (by decide)) (pv 3) (pa_cons pe_int pa_nil)) pa_nil)))))))))
      (pss_cons (ps_if (pt_cmpR (op_neD hr.units) (pv 4) (pe_lst (pa_cons (pe_tup (pa_cons pe_int (pa_cons pe_int pa_nil))) (pa_cons (pe_tup (pa_cons pe_int (pa_cons pe_int pa_nil))) (pa_cons (pe_tup (pa_cons (pe_tup (pa_cons pe_int pa_nil)) pa_nil)) (pa_cons (pe_tup (pa_cons pe_int (pa_cons pe_int (pa_cons pe_int (pa_cons pe_int (pa_cons pe_int pa_nil)))))) (pa_cons (pe_tup (pa_cons pe_int pa_nil)) (pa_cons (pe_tup (pa_cons pe_int pa_nil)) (pa_cons (pe_tup pa_nil) pa_nil)))))))) (nomark _)) (pss_one (ps_ret pe_bl)) pss_nil)
      (pss_cons (ps_set (i := 5) sc_law.nd rfl (Or.inl rfl) (pe_mkC mkC Ci.mgC (hr.mono (by decide)) (by rfl) (pa_cons (pe_tup (pa_cons (pe_tup (pa_cons pe_str (pa_cons pe_int pa_nil))) pa_nil)) (pa_cons (pe_tup (pa_cons (pe_tup (pa_cons pe_int (pa_cons (pe_tup (pa_cons pe_int pa_nil)) pa_nil))) pa_nil)) pa_nil))))
      (pss_one (ps_ret (pe_cmpR (op_eqD hr.units) (pe_lst (pa_cons (pe_mcal m_meaning Ci.sc (hr.mono (by decide)) (pv 5) (pa_cons pe_int (pa_cons (pe_tup pa_nil) pa_nil))) (pa_cons (pe_pcal p_levels Ci.sc (hr.mono (by decide)) (pv 5)) (pa_cons (pe_pcal p_inputs Ci.sc (hr.mono (by decide)) (pv 5)) (pa_cons (pe_callTy (call_strC oStr (hr.mono (by decide))) (by rfl) G.str (by decide +kernel) (pa_cons (pv 5) pa_nil)) pa_nil))))) (pe_lst (pa_cons (pe_tup (pa_cons pe_int pa_nil)) (pa_cons (pe_tup pa_nil) (pa_cons (pe_tup pa_nil) (pa_cons pe_str pa_nil))))) (nomark _))))))))), ?_⟩
    refine q_forR1 (ea_cons (ev_max2 ev_c (ev_min2 ev_c (ev_len (ev_var rfl) hs))) ea_nil) (by constructor <;> (repeat' split) <;> omega) (fun i σ' H' => ∃ o1 o2, σ' = [some (.ref a), o1, o2, none, none, none] ∧ Ex H H') (fun H1 e1 => ⟨none, none, rfl, e1⟩) (fun i σ' H' hi hP => ?m1) fun σ' H' hP => ?m2
    case m1 =>
      obtain ⟨o1, o2, rfl, e⟩ := hP
      refine q_asgP (R := fun v H => ∃ d, v = .ref d ∧ Dice H d) (evp_cal (ea_cons (ev_var rfl) (ea_cons (ev_var rfl) ea_nil)) fun H1 e1 Q q E => ⟨⟨a, ns, i, rfl, ex_l (e.trans e1) hs⟩, fun d H2 e2 hd => q _ H2 e2 ⟨d, rfl, hd⟩⟩) fun v H1 e1 hv => ?_
      obtain ⟨d, rfl, hd⟩ := hv
      exact s_when (b := false) (et_or (a := false) (b := false) (et_not (et_B (ev_cal (ea_cons (ev_var rfl) ea_nil) (spv_right hd)))) fun _ => et_not (et_B (ev_cal (ea_cons (ev_var rfl) ea_nil) (spv_right hd)))) (fun h => nomatch h) fun _ H2 e2 => ⟨_, _, rfl, (e.trans e1).trans e2⟩
    case m2 =>
    obtain ⟨o1, o2, rfl, e1⟩ := hP
    clear e1 hs
    -- the first circuit
    refine q_asgP (evp_mkR (ear_mk (gs := gs1) (os := os1) (eu_tupT gt_steady (eat_cons gt_steady (evp_U (eu_tup (ea_cons ev_c (ea_cons ev_c ea_nil)) (by decide))) (eat_cons gt_steady (evp_U (eu_tup (ea_cons ev_c (ea_cons ev_c ea_nil)) (by decide))) (eat_cons gt_steady (evp_U (eu_tup (ea_cons ev_c (ea_cons ev_c (ea_cons ev_c ea_nil))) (by decide)))
      (eat_cons gt_steady (evp_U (eu_tup (ea_cons ev_c (ea_cons ev_c (ea_cons ev_c ea_nil))) (by decide))) (eat_cons gt_steady (evp_U (eu_tup (ea_cons ev_c (ea_cons ev_c (ea_cons ev_c ea_nil))) (by decide))) eat_nil))))) (by decide)) (eu_tupT ot_steady (eat_cons ot_steady (evp_o (eu_tup (ea_cons ev_c (ea_cons ev_c ea_nil)) (by decide))) eat_nil) (by decide))) ok_gs1 ok_os1) fun v H2 e2 hv => ?_
    obtain ⟨c, rfl, hc⟩ := hv
    have f5 : IsF 5 := isF_of (by decide)
    have f7 : IsF 7 := isF_of (by decide)
    refine q_asgP (R := DpV K (.list [nisD [0, 1], nisD [2, 1], nssD [[3]], nisD [3, 4, 2, 3, 3], nisD [0], nisD [0], nisD []])) (evp_lstD (eap_cons ((evp_prop (ev_var rfl) hc.at_ (spp_prop hc)).imp fun v H5 e h => ?a1) (eap_cons ((evp_prop (ev_var rfl) hc.at_ (spp_prop hc)).imp fun v H5 e h => ?a2) (eap_cons ((evp_prop (ev_var rfl) hc.at_ (spp_prop hc)).imp fun v H5 e h => ?a3)
      (eap_cons ((evp_methR (R' := TupV (nis (means 5 [3, 4] gs1))) (ev_var rfl) hc.at_ (ear_nums (f := 5) (ns := [3, 4]) (eu_tup (ea_cons ev_c (ea_cons ev_c ea_nil)) (by decide))) fun vs H5 e h => ?a4).imp fun v H5 e h => ?a5) (eap_cons ((evp_methR (R' := TupV (nis (toldOf 7 [3, 4] gs1 os1))) (ev_var rfl) hc.at_ (ear_nums (f := 7) (ns := [3, 4]) (eu_tup (ea_cons ev_c (ea_cons ev_c ea_nil)) (by decide))) fun vs H5 e h => ?a6).imp fun v H5 e h => ?a7)
      (eap_cons ((evp_meth (ev_var rfl) hc.at_ (ea_cons ev_c ea_nil) (spp_in (h := 2) (by decide) (by decide) hc)).imp fun v H5 e h => ?a8) (eap_cons ((evp_meth (ev_var rfl) hc.at_ (ea_cons ev_c ea_nil) (spp_in (h := 9) (by decide) (by decide) hc)).imp fun v H5 e h => ?a9) eap_nil))))))) (by decide)) fun v H3 e3 hv => ?_
    case a1 =>
      rw [e_idx1] at h
      exact tupV_dp h
    case a2 =>
      rw [e_hou1] at h
      exact tupV_dp h
    case a3 =>
      rw [e_pro1] at h
      exact h
    case a4 =>
      obtain ⟨na, rfl, hna⟩ := h
      exact spp_mean (hc.ex e) ⟨f5, hna, by decide, by decide⟩
    case a5 =>
      have h : TupV (nis (means 5 [3, 4] gs1)) v H5 := h
      rw [e_mea1] at h
      exact tupV_dp h
    case a6 =>
      obtain ⟨na, rfl, hna⟩ := h
      exact spp_mean (hc.ex e) ⟨f7, hna, by decide, by decide⟩
    case a7 =>
      have h : TupV (nis (toldOf 7 [3, 4] gs1 os1)) v H5 := h
      rw [e_tol1] at h
      exact tupV_dp h
    case a8 =>
      rw [e_in2] at h
      exact tupV_dp h
    case a9 =>
      rw [e_in9] at h
      exact tupV_dp h
    have shD : Sh 3 (.list [nisD [0, 1], nisD [2, 1], nssD [[3]], nisD [3, 4, 2, 3, 3], nisD [0], nisD [0], nisD []]) := sh_lst (sh_cons ((sh_nis _).mono (by decide)) (sh_cons ((sh_nis _).mono (by decide)) (sh_cons (sh_nss _) (sh_cons ((sh_nis _).mono (by decide)) (sh_cons ((sh_nis _).mono (by decide)) (sh_cons ((sh_nis _).mono (by decide)) (sh_cons ((sh_nis _).mono (by decide)) sh_nil)))))))
    refine q_when (b := false) (et_test (ev_nePs (evp_of (ev_var rfl) fun H4 e4 => dp_ex hv e4) (evp_lstD (eap_cons (evp_nis (ns := [0, 1]) (eu_tup (ea_cons ev_c (ea_cons ev_c ea_nil)) (by decide))) (eap_cons (evp_nis (ns := [2, 1]) (eu_tup (ea_cons ev_c (ea_cons ev_c ea_nil)) (by decide)))
      (eap_cons (evp_tupD (eap_cons (evp_nis (ns := [3]) (eu_tup (ea_cons ev_c ea_nil) (by decide))) eap_nil) (by decide)) (eap_cons (evp_nis (ns := [3, 4, 2, 3, 3]) (eu_tup (ea_cons ev_c (ea_cons ev_c (ea_cons ev_c (ea_cons ev_c (ea_cons ev_c ea_nil))))) (by decide)))
      (eap_cons (evp_nis (ns := [0]) (eu_tup (ea_cons ev_c ea_nil) (by decide))) (eap_cons (evp_nis (ns := [0]) (eu_tup (ea_cons ev_c ea_nil) (by decide))) (eap_cons (evp_nis (ns := []) (eu_tup ea_nil (by decide))) eap_nil))))))) (by decide)) shD (by decide))) (fun h => nomatch h) fun _ H4 e4 => ?_
    -- the lone constant
    refine q_asgP (evp_mkR (ear_mk (gs := gs2) (os := os2) (eu_tupT gt_steady (eat_cons gt_steady (evp_U (eu_tup (ea_cons ev_c (ea_cons ev_c ea_nil)) (by decide))) eat_nil) (by decide)) (eu_tupT ot_steady (eat_cons ot_steady (evp_o (eu_tup (ea_cons ev_c ea_nil) (by decide))) eat_nil) (by decide))) ok_gs2 ok_os2) fun v2 H5 e5 hv2 => ?_
    obtain ⟨c2, rfl, hc2⟩ := hv2
    have shD2 : Sh 3 (.list [nisD [1], nssD [], nisD [], .str "circuit of 1 gates, 0 products"]) := sh_lst (sh_cons ((sh_nis _).mono (by decide)) (sh_cons (sh_nss _) (sh_cons ((sh_nis _).mono (by decide)) (sh_cons (sh_str 2 (by decide +kernel)) sh_nil))))
    refine s_ret (ev_eqPs (d := .list [nisD [1], nssD [], nisD [], .str "circuit of 1 gates, 0 products"]) (evp_lstD (eap_cons ((evp_methR (R' := TupV (nis (means 5 [] gs2))) (ev_var rfl) hc2.at_ (ear_nums (f := 5) (ns := []) (eu_tup ea_nil (by decide))) fun vs H5 e h => ?b1).imp fun v H5 e h => ?b2) (eap_cons ((evp_prop (ev_var rfl) hc2.at_ (spp_prop hc2)).imp fun v H5 e h => ?b3)
      (eap_cons ((evp_prop (ev_var rfl) hc2.at_ (spp_prop hc2)).imp fun v H5 e h => ?b4) (eap_cons (evp_of (ev_is (ev_strC (ev_var rfl) hc2) (congrArg V.str e_str2)) fun _ _ => .str _) eap_nil)))) (by decide))
      (evp_lstD (eap_cons (evp_nis (ns := [1]) (eu_tup (ea_cons ev_c ea_nil) (by decide))) (eap_cons (evp_tupD eap_nil (by decide)) (eap_cons (evp_nis (ns := []) (eu_tup ea_nil (by decide))) (eap_cons (evp_of ev_c fun _ _ => .str _) eap_nil)))) (by decide)) shD2 (by decide)) fun H6 e6 => k H6
    case b1 =>
      obtain ⟨na, rfl, hna⟩ := h
      exact spp_mean (hc2.ex e) ⟨f5, hna, by decide, fun n h => nomatch h⟩
    case b2 =>
      have h : TupV (nis (means 5 [] gs2)) v H5 := h
      rw [e_mea2] at h
      exact tupV_dp h
    case b3 =>
      rw [e_pro2] at h
      exact h
    case b4 =>
      rw [e_idx2] at h
      exact tupV_dp h
end
end Ec
set_option maxRecDepth 100000
set_option maxHeartbeats 4000000
/-! all defs joined -/
namespace Ec
open PySem PySem.Spec PyProof.Rows L2 Evl SlX
section
variable {P : Program} {w : World} {K : PySem.W.Frag} {mg : Str → Option Value} {base : Heap} {C : Addr}
theorem all_cal (G : Glo mg) (Ci : CiF K mg C)
    (f_is_integer : FunX K mg "is_integer" "is_integer" "is_integer" s_is_integer ["value"])
    (f_is_within : FunX K mg "is_within" "is_within" "is_within" s_is_within ["value", "least", "most"])
    (f_require_field : FunX K mg "require_field_field" "require_field" "require_field" s_require_field ["value"])
    (f_is_field : FunX K mg "is_field" "is_field" "is_field" s_is_field ["value"])
    (f_is_number : FunX K mg "is_number" "is_number" "is_number" s_is_number ["field", "value"])
    (f_is_from : FunX K mg "is_from" "is_from" "is_from" s_is_from ["value", "least", "most"])
    (f_is_gate : FunX K mg "is_gate" "is_gate" "is_gate" s_is_gate ["value", "at"])
    (f_are_houses : FunX K mg "are_houses" "are_houses" "are_houses" s_are_houses ["value"])
    (f_is_output : FunX K mg "is_output" "is_output" "is_output" s_is_output ["value", "many"])
    (f_many_of : FunX K mg "many_of" "many_of" "many_of" s_many_of ["gates", "word"])
    (f_are_gates : FunX K mg "are_gates" "are_gates" "are_gates" s_are_gates ["value"])
    (f_are_outputs : FunX K mg "are_outputs" "are_outputs" "are_outputs" s_are_outputs ["value", "many"])
    (f_level_list : FunX K mg "level_list" "level_list" "level_list" s_level_list ["gates"])
    (f_products_of : FunX K mg "products_of" "products_of" "products_of" s_products_of ["gates"])
    (f_meaning_in : FunX K mg "meaning_in" "meaning_in" "meaning_in" s_meaning_in ["field", "circuit", "numbers"])
    (f_require_field2 : FunX K mg "require_field_circuits" "require_field" "require_field" s_require_field2 ["value"])
    (f_are_numbers : FunX K mg "are_numbers" "are_numbers" "are_numbers" s_are_numbers ["field", "value", "many"])
    (f_require_numbers : FunX K mg "require_numbers" "require_numbers" "require_numbers" s_require_numbers ["field", "circuit", "numbers"])
    (f_law_dice : FunX K mg "_law_dice" "_law_dice" "_law_dice" s_law_dice ["_law_script", "_law_spot"])
    (f_law_roll : FunX K mg "_law_roll" "_law_roll" "_law_roll" s_law_roll ["_law_dice_here", "_law_most"])
    (f_law_pick : FunX K mg "_law_pick" "_law_pick" "_law_pick" s_law_pick ["_law_dice_here", "_law_items"])
    (f_law_mixed : FunX K mg "_law_mixed" "_law_mixed" "_law_mixed" s_law_mixed ["_law_dice_here", "_law_items"])
    (f_law_dr_hall : FunX K mg "_law_dr_hall" "_law_dr_hall" "_law_dr_hall" s_law_dr_hall ["_law_dice_here", "_law_kind"])
    (f_law_dr_houses : FunX K mg "_law_dr_houses" "_law_dr_houses" "_law_dr_houses" s_law_dr_houses ["_law_dice_here", "_law_houses"])
    (f_law_dr_gate : FunX K mg "_law_dr_gate" "_law_dr_gate" "_law_dr_gate" s_law_dr_gate ["_law_dice_here", "_law_field", "_law_at", "_law_may_multiply"])
    (f_law_dr_gates : FunX K mg "_law_dr_gates" "_law_dr_gates" "_law_dr_gates" s_law_dr_gates ["_law_dice_here", "_law_field", "_law_houses", "_law_many", "_law_products"])
    (f_law_dr_outputs : FunX K mg "_law_dr_outputs" "_law_dr_outputs" "_law_dr_outputs" s_law_dr_outputs ["_law_dice_here", "_law_gates", "_law_houses"])
    (f_law_dr_numbers : FunX K mg "_law_dr_numbers" "_law_dr_numbers" "_law_dr_numbers" s_law_dr_numbers ["_law_dice_here", "_law_field", "_law_many"])
    (f_law_dr_inputs : FunX K mg "_law_dr_inputs" "_law_dr_inputs" "_law_dr_inputs" s_law_dr_inputs ["_law_dice_here", "_law_field", "_law_gates"])
    (f_law_ci_levels : FunX K mg "_law_ci_levels" "_law_ci_levels" "_law_ci_levels" s_law_ci_levels ["_law_gates"])
    (f_law_ci_products : FunX K mg "_law_ci_products" "_law_ci_products" "_law_ci_products" s_law_ci_products ["_law_gates"])
    (f_law_ci_inputs : FunX K mg "_law_ci_inputs" "_law_ci_inputs" "_law_ci_inputs" s_law_ci_inputs ["_law_gates"])
    (f_law_ci_meaning : FunX K mg "_law_ci_meaning" "_law_ci_meaning" "_law_ci_meaning" s_law_ci_meaning ["_law_field", "_law_gates", "_law_numbers"])
    (f_law_ci_told : FunX K mg "_law_ci_told" "_law_ci_told" "_law_ci_told" s_law_ci_told ["_law_field", "_law_gates", "_law_outputs", "_law_numbers"])
    (f_law_right : FunX K mg "_law_right" "_law_right" "_law_right" s_law_right ["_law_dice_here"])
    (f_C_init : FunAt K (RMk K C) "__init__" "Circuit.__init__" s_C_init ["self", "gates", "outputs"])
    (f_C_gates : FunAt K (RProp K C "gates") "gates" "Circuit.gates" s_C_gates ["self"])
    (f_C_outputs : FunAt K (RProp K C "outputs") "outputs" "Circuit.outputs" s_C_outputs ["self"])
    (f_C_inputs : FunAt K (RProp K C "inputs") "inputs" "Circuit.inputs" s_C_inputs ["self"])
    (f_C_houses : FunAt K (RProp K C "houses") "houses" "Circuit.houses" s_C_houses ["self"])
    (f_C_levels : FunAt K (RProp K C "levels") "levels" "Circuit.levels" s_C_levels ["self"])
    (f_C_inputs_of : FunAt K (RMeth K C "inputs_of") "inputs_of" "Circuit.inputs_of" s_C_inputs_of ["self", "house"])
    (f_C_meaning : FunAt K (RMeth K C "meaning") "meaning" "Circuit.meaning" s_C_meaning ["self", "field", "numbers"])
    (f_C_told : FunAt K (RMeth K C "told") "told" "Circuit.told" s_C_told ["self", "field", "numbers"])
    (f_C_eq : FunAt K (ROwn K C "__eq__") "__eq__" "Circuit.__eq__" s_C_eq ["self", "other"])
    (f_C_str : FunAt K (ROwn K C "__str__") "__str__" "Circuit.__str__" s_C_str ["self"])
    {f : Addr} {fd : FuncData} (F : Fun K "law" "law" s_law f fd) : FnOk P w K mg base CX0 10 f fd ["_law_script"] (spLaw K) := by
  have c1 := cal_is_integer (P := P) (w := w) (base := base) G f_is_integer
  have c2 := cal_is_within (P := P) (w := w) (base := base) G c1 f_is_within
  have c3 := cal_is_from (P := P) (w := w) (base := base) G f_is_from
  have c4 := cal_is_field (P := P) (w := w) (base := base) G c2 f_is_field
  have c5 := cal_require_field (P := P) (w := w) (base := base) G c4 f_require_field
  have c6 := cal_require_field2 (P := P) (w := w) (base := base) G c4 f_require_field2
  have c7 := cal_is_number (P := P) (w := w) (base := base) G c2 c5 f_is_number
  have c8 := cal_is_gate (P := P) (w := w) (base := base) G c3 f_is_gate
  have c9 := cal_are_houses (P := P) (w := w) (base := base) G c3 f_are_houses
  have c10 := cal_is_output (P := P) (w := w) (base := base) G c3 c9 f_is_output
  have c11 := cal_many_of (P := P) (w := w) (base := base) G f_many_of
  have c12 := cal_are_gates (P := P) (w := w) (base := base) G c8 c11 f_are_gates
  have c13 := cal_are_outputs (P := P) (w := w) (base := base) G c10 f_are_outputs
  have c14 := cal_level_list (P := P) (w := w) (base := base) G f_level_list
  have c15 := cal_products_of (P := P) (w := w) (base := base) G c14 f_products_of
  have c16 := cal_meaning_in (P := P) (w := w) (base := base) G Ci f_meaning_in
  have c17 := cal_are_numbers (P := P) (w := w) (base := base) G c7 f_are_numbers
  have a1 := at_init (P := P) (w := w) (base := base) G Ci c12 c13 f_C_init
  have a2 := at_gates (P := P) (w := w) (base := base) Ci f_C_gates
  have a3 := at_outputs (P := P) (w := w) (base := base) Ci f_C_outputs
  have a4 := at_inputs (P := P) (w := w) (base := base) G Ci f_C_inputs
  have a5 := at_houses (P := P) (w := w) (base := base) G Ci f_C_houses
  have a6 := at_levels (P := P) (w := w) (base := base) Ci c15 f_C_levels
  have c18 := cal_require_numbers (P := P) (w := w) (base := base) G Ci c6 c17 a4 f_require_numbers
  have a7 := at_inputs_of (P := P) (w := w) (base := base) G Ci c3 f_C_inputs_of
  have a8 := at_meaning (P := P) (w := w) (base := base) G Ci c18 c16 f_C_meaning
  have a9 := at_told (P := P) (w := w) (base := base) G Ci c18 c16 f_C_told
  have a10 := at_eq (P := P) (w := w) (base := base) G Ci f_C_eq
  have a11 := at_str (P := P) (w := w) (base := base) G Ci c11 f_C_str
  have CX : CiX P w K mg base C := ⟨a1, a2, a3, a4, a5, a6, a7, a8, a9, a10, a11⟩
  have d1 := cal_law_dice (P := P) (w := w) (base := base) G f_law_dice
  have d2 := cal_law_roll (P := P) (w := w) (base := base) G f_law_roll
  have d3 := cal_law_pick (P := P) (w := w) (base := base) G d2 f_law_pick
  have d4 := cal_law_mixed (P := P) (w := w) (base := base) G d2 f_law_mixed
  have d5 := cal_law_dr_houses (P := P) (w := w) (base := base) G d2 d4 f_law_dr_houses
  have d6 := cal_law_dr_hall (P := P) (w := w) (base := base) G d3 f_law_dr_hall
  have d7 := cal_law_dr_gate (P := P) (w := w) (base := base) G d2 d3 f_law_dr_gate
  have d8 := cal_law_dr_gates (P := P) (w := w) (base := base) G d2 d7 f_law_dr_gates
  have d9 := cal_law_dr_outputs (P := P) (w := w) (base := base) G d2 d5 f_law_dr_outputs
  have d10 := cal_law_dr_numbers (P := P) (w := w) (base := base) G d2 d3 f_law_dr_numbers
  have d11 := cal_law_dr_inputs (P := P) (w := w) (base := base) G d10 f_law_dr_inputs
  have e1 := cal_law_ci_levels (P := P) (w := w) (base := base) G f_law_ci_levels
  have e2 := cal_law_ci_inputs (P := P) (w := w) (base := base) G f_law_ci_inputs
  have e3 := cal_law_ci_meaning (P := P) (w := w) (base := base) G e2 f_law_ci_meaning
  have e4 := cal_law_ci_told (P := P) (w := w) (base := base) G e3 f_law_ci_told
  have e5 := cal_law_ci_products (P := P) (w := w) (base := base) G e1 f_law_ci_products
  have r := cal_law_right (P := P) (w := w) (base := base) G Ci CX d2 d3 d6 d8 d9 d11 e2 e5 e3 e4 f_law_right
  exact ok_law (P := P) (w := w) (base := base) G Ci CX d1 r F
end
/-- what the top has written of a def -/
def Wr (K : PySem.W.Frag) (x qual : Str) (st : Stmt) (f : Addr) : Prop := ∃ (oc : Value) (od : Option Addr) (kV doc pm : Value) (an : Option Addr) (cd ct : Value) (sl : Array (Option Value)),
  K.lookup f = some ⟨oc, od, .func (PySem.W.fnOf x qual (defArgs st) (defBody st) (defScope st) .none kV doc pm an cd ct), sl⟩ ∧ PySem.W.codeIn K cd qual = true ∧ PySem.W.keepIn K (.ref f) = true
theorem wr_fun {K : PySem.W.Frag} {x qual : Str} {st : Stmt} {f : Addr} (h : Wr K x qual st f) : ∃ (kV doc pm : Value) (an : Option Addr) (cd ct : Value), Fun K x qual st f (PySem.W.fnOf x qual (defArgs st) (defBody st) (defScope st) .none kV doc pm an cd ct) := by
  obtain ⟨oc, od, kV, doc, pm, an, cd, ct, sl, l, c, k⟩ := h
  exact ⟨kV, doc, pm, an, cd, ct, fun_mk l c k⟩
theorem funX_mk {K : PySem.W.Frag} {h : Heap} {mg : Str → Option Value} {g x qual : Str} {st : Stmt} {ps : List Str} {f : Addr} (X : K.In h) (G : h.Ns mainGlobals mg) (a : PySem.W.nsIn K mainGlobals g = some (some (.ref f))) (W : Wr K x qual st f)
    (hb : ∀ (kV doc pm : Value) (an : Option Addr) (cdv ct : Value) (us : List Value), us.length = ps.length → bindArgs (PySem.W.fnOf x qual (defArgs st) (defBody st) (defScope st) .none kV doc pm an cdv ct) ⟨us, []⟩ = pure (ps.zip us)) : FunX K mg g x qual st ps := by
  obtain ⟨kV, doc, pm, an, cd, ct, F⟩ := wr_fun W
  exact ⟨f, _, F, PySem.W.mg_of X G a, F.binds hb⟩
theorem funAt_mk {K : PySem.W.Frag} {R : Addr → Prop} {x qual : Str} {st : Stmt} {ps : List Str} {f : Addr} (r : R f) (W : Wr K x qual st f)
    (hb : ∀ (kV doc pm : Value) (an : Option Addr) (cdv ct : Value) (us : List Value), us.length = ps.length → bindArgs (PySem.W.fnOf x qual (defArgs st) (defBody st) (defScope st) .none kV doc pm an cdv ct) ⟨us, []⟩ = pure (ps.zip us)) : FunAt K R x qual st ps := by
  obtain ⟨kV, doc, pm, an, cd, ct, F⟩ := wr_fun W
  exact ⟨f, _, F, r, F.binds hb⟩
theorem kit_no {K : PySem.W.Frag} {C : Addr} {T : String} (ic : PySem.W.isClsIn K C = true) (ty : PySem.W.typeIn K (.ref C) = some (.type "type")) (su : PySem.W.subIn K (.type T) (.ref C) = some false) : PySem.W.kitOne K (.type T) (.ref C) = some false := by
  unfold PySem.W.kitOne PySem.W.kitCls
  rw [if_neg (by intro z; cases (beq_iff_eq.mp z))]
  show (if ((PySem.W.clsIn K C).isSome && PySem.W.typeIn K (.ref C) == some (.type "type")) = true then PySem.W.subIn K (.type T) (.ref C) else none) = some false
  rw [show (PySem.W.clsIn K C).isSome = true from ic, ty, su]
  rfl
theorem kit_self {K : PySem.W.Frag} {C : Addr} : PySem.W.kitOne K (.ref C) (.ref C) = some true := by
  unfold PySem.W.kitOne
  rw [if_pos (beq_self_eq_true _)]
theorem sub_none {K : PySem.W.Frag} {C : Addr} : PySem.W.subIn K (.type "NoneType") (.ref C) = some false := by rfl
theorem sub_tuple {K : PySem.W.Frag} {C : Addr} : PySem.W.subIn K (.type "tuple") (.ref C) = some false := by rfl
theorem sub_str {K : PySem.W.Frag} {C : Addr} : PySem.W.subIn K (.type "str") (.ref C) = some false := by rfl
theorem all_mk {l : PySem.W.OpenLaw} {w : World} {K : PySem.W.Frag} {h : Heap} {mg : Str → Option Value} {fa C p1 p2 fL : Addr} {t_LEAST_FIELD : Nat} {t_MAX_FIELD : Nat} {t_MOST_PART : Nat} {t_MAX_GATES : Nat} {t_MAX_PRODUCTS : Nat} {t_MAX_INPUTS : Nat} {t_MAX_OUTPUTS : Nat} {t_MOST_NUMBER : Nat} {t_MOST_HOUSE : Nat} {t_INPUT : Nat} {t_CONSTANT : Nat} {t_SUM : Nat} {t_MULTIPLE : Nat} {t_PRODUCT : Nat} {f_is_integer : Addr} {oc_is_integer kV_is_integer dc_is_integer pm_is_integer cd_is_integer ct_is_integer : Value} {od_is_integer an_is_integer : Option Addr} {sl_is_integer : Array (Option Value)} {f_is_within : Addr} {oc_is_within kV_is_within dc_is_within pm_is_within cd_is_within ct_is_within : Value} {od_is_within an_is_within : Option Addr} {sl_is_within : Array (Option Value)} {f_require_field : Addr} {oc_require_field kV_require_field dc_require_field pm_require_field cd_require_field ct_require_field : Value} {od_require_field an_require_field : Option Addr} {sl_require_field : Array (Option Value)} {f_is_field : Addr} {oc_is_field kV_is_field dc_is_field pm_is_field cd_is_field ct_is_field : Value} {od_is_field an_is_field : Option Addr} {sl_is_field : Array (Option Value)} {f_is_number : Addr} {oc_is_number kV_is_number dc_is_number pm_is_number cd_is_number ct_is_number : Value} {od_is_number an_is_number : Option Addr} {sl_is_number : Array (Option Value)} {f_is_from : Addr} {oc_is_from kV_is_from dc_is_from pm_is_from cd_is_from ct_is_from : Value} {od_is_from an_is_from : Option Addr} {sl_is_from : Array (Option Value)} {f_is_gate : Addr} {oc_is_gate kV_is_gate dc_is_gate pm_is_gate cd_is_gate ct_is_gate : Value} {od_is_gate an_is_gate : Option Addr} {sl_is_gate : Array (Option Value)} {f_are_houses : Addr} {oc_are_houses kV_are_houses dc_are_houses pm_are_houses cd_are_houses ct_are_houses : Value} {od_are_houses an_are_houses : Option Addr} {sl_are_houses : Array (Option Value)} {f_is_output : Addr} {oc_is_output kV_is_output dc_is_output pm_is_output cd_is_output ct_is_output : Value} {od_is_output an_is_output : Option Addr} {sl_is_output : Array (Option Value)} {f_many_of : Addr} {oc_many_of kV_many_of dc_many_of pm_many_of cd_many_of ct_many_of : Value} {od_many_of an_many_of : Option Addr} {sl_many_of : Array (Option Value)} {f_are_gates : Addr} {oc_are_gates kV_are_gates dc_are_gates pm_are_gates cd_are_gates ct_are_gates : Value} {od_are_gates an_are_gates : Option Addr} {sl_are_gates : Array (Option Value)} {f_are_outputs : Addr} {oc_are_outputs kV_are_outputs dc_are_outputs pm_are_outputs cd_are_outputs ct_are_outputs : Value} {od_are_outputs an_are_outputs : Option Addr} {sl_are_outputs : Array (Option Value)} {f_level_list : Addr} {oc_level_list kV_level_list dc_level_list pm_level_list cd_level_list ct_level_list : Value} {od_level_list an_level_list : Option Addr} {sl_level_list : Array (Option Value)} {f_products_of : Addr} {oc_products_of kV_products_of dc_products_of pm_products_of cd_products_of ct_products_of : Value} {od_products_of an_products_of : Option Addr} {sl_products_of : Array (Option Value)} {f_meaning_in : Addr} {oc_meaning_in kV_meaning_in dc_meaning_in pm_meaning_in cd_meaning_in ct_meaning_in : Value} {od_meaning_in an_meaning_in : Option Addr} {sl_meaning_in : Array (Option Value)} {f_require_field2 : Addr} {oc_require_field2 kV_require_field2 dc_require_field2 pm_require_field2 cd_require_field2 ct_require_field2 : Value} {od_require_field2 an_require_field2 : Option Addr} {sl_require_field2 : Array (Option Value)} {f_are_numbers : Addr} {oc_are_numbers kV_are_numbers dc_are_numbers pm_are_numbers cd_are_numbers ct_are_numbers : Value} {od_are_numbers an_are_numbers : Option Addr} {sl_are_numbers : Array (Option Value)} {f_require_numbers : Addr} {oc_require_numbers kV_require_numbers dc_require_numbers pm_require_numbers cd_require_numbers ct_require_numbers : Value} {od_require_numbers an_require_numbers : Option Addr} {sl_require_numbers : Array (Option Value)} {f_law_dice : Addr} {oc_law_dice kV_law_dice dc_law_dice pm_law_dice cd_law_dice ct_law_dice : Value} {od_law_dice an_law_dice : Option Addr} {sl_law_dice : Array (Option Value)} {f_law_roll : Addr} {oc_law_roll kV_law_roll dc_law_roll pm_law_roll cd_law_roll ct_law_roll : Value} {od_law_roll an_law_roll : Option Addr} {sl_law_roll : Array (Option Value)} {f_law_pick : Addr} {oc_law_pick kV_law_pick dc_law_pick pm_law_pick cd_law_pick ct_law_pick : Value} {od_law_pick an_law_pick : Option Addr} {sl_law_pick : Array (Option Value)} {f_law_mixed : Addr} {oc_law_mixed kV_law_mixed dc_law_mixed pm_law_mixed cd_law_mixed ct_law_mixed : Value} {od_law_mixed an_law_mixed : Option Addr} {sl_law_mixed : Array (Option Value)} {f_law_dr_hall : Addr} {oc_law_dr_hall kV_law_dr_hall dc_law_dr_hall pm_law_dr_hall cd_law_dr_hall ct_law_dr_hall : Value} {od_law_dr_hall an_law_dr_hall : Option Addr} {sl_law_dr_hall : Array (Option Value)} {f_law_dr_houses : Addr} {oc_law_dr_houses kV_law_dr_houses dc_law_dr_houses pm_law_dr_houses cd_law_dr_houses ct_law_dr_houses : Value} {od_law_dr_houses an_law_dr_houses : Option Addr} {sl_law_dr_houses : Array (Option Value)} {f_law_dr_gate : Addr} {oc_law_dr_gate kV_law_dr_gate dc_law_dr_gate pm_law_dr_gate cd_law_dr_gate ct_law_dr_gate : Value} {od_law_dr_gate an_law_dr_gate : Option Addr} {sl_law_dr_gate : Array (Option Value)} {f_law_dr_gates : Addr} {oc_law_dr_gates kV_law_dr_gates dc_law_dr_gates pm_law_dr_gates cd_law_dr_gates ct_law_dr_gates : Value} {od_law_dr_gates an_law_dr_gates : Option Addr} {sl_law_dr_gates : Array (Option Value)} {f_law_dr_outputs : Addr} {oc_law_dr_outputs kV_law_dr_outputs dc_law_dr_outputs pm_law_dr_outputs cd_law_dr_outputs ct_law_dr_outputs : Value} {od_law_dr_outputs an_law_dr_outputs : Option Addr} {sl_law_dr_outputs : Array (Option Value)} {f_law_dr_numbers : Addr} {oc_law_dr_numbers kV_law_dr_numbers dc_law_dr_numbers pm_law_dr_numbers cd_law_dr_numbers ct_law_dr_numbers : Value} {od_law_dr_numbers an_law_dr_numbers : Option Addr} {sl_law_dr_numbers : Array (Option Value)} {f_law_dr_inputs : Addr} {oc_law_dr_inputs kV_law_dr_inputs dc_law_dr_inputs pm_law_dr_inputs cd_law_dr_inputs ct_law_dr_inputs : Value} {od_law_dr_inputs an_law_dr_inputs : Option Addr} {sl_law_dr_inputs : Array (Option Value)} {f_law_ci_levels : Addr} {oc_law_ci_levels kV_law_ci_levels dc_law_ci_levels pm_law_ci_levels cd_law_ci_levels ct_law_ci_levels : Value} {od_law_ci_levels an_law_ci_levels : Option Addr} {sl_law_ci_levels : Array (Option Value)} {f_law_ci_products : Addr} {oc_law_ci_products kV_law_ci_products dc_law_ci_products pm_law_ci_products cd_law_ci_products ct_law_ci_products : Value} {od_law_ci_products an_law_ci_products : Option Addr} {sl_law_ci_products : Array (Option Value)} {f_law_ci_inputs : Addr} {oc_law_ci_inputs kV_law_ci_inputs dc_law_ci_inputs pm_law_ci_inputs cd_law_ci_inputs ct_law_ci_inputs : Value} {od_law_ci_inputs an_law_ci_inputs : Option Addr} {sl_law_ci_inputs : Array (Option Value)} {f_law_ci_meaning : Addr} {oc_law_ci_meaning kV_law_ci_meaning dc_law_ci_meaning pm_law_ci_meaning cd_law_ci_meaning ct_law_ci_meaning : Value} {od_law_ci_meaning an_law_ci_meaning : Option Addr} {sl_law_ci_meaning : Array (Option Value)} {f_law_ci_told : Addr} {oc_law_ci_told kV_law_ci_told dc_law_ci_told pm_law_ci_told cd_law_ci_told ct_law_ci_told : Value} {od_law_ci_told an_law_ci_told : Option Addr} {sl_law_ci_told : Array (Option Value)} {f_law_right : Addr} {oc_law_right kV_law_right dc_law_right pm_law_right cd_law_right ct_law_right : Value} {od_law_right an_law_right : Option Addr} {sl_law_right : Array (Option Value)} {f_C_init : Addr} {oc_C_init kV_C_init dc_C_init pm_C_init cd_C_init ct_C_init : Value} {od_C_init an_C_init : Option Addr} {sl_C_init : Array (Option Value)} {f_C_gates : Addr} {q_C_gates : Addr} {r_C_gates : List Value} {oc_C_gates kV_C_gates dc_C_gates pm_C_gates cd_C_gates ct_C_gates : Value} {od_C_gates an_C_gates : Option Addr} {sl_C_gates : Array (Option Value)} {f_C_outputs : Addr} {q_C_outputs : Addr} {r_C_outputs : List Value} {oc_C_outputs kV_C_outputs dc_C_outputs pm_C_outputs cd_C_outputs ct_C_outputs : Value} {od_C_outputs an_C_outputs : Option Addr} {sl_C_outputs : Array (Option Value)} {f_C_inputs : Addr} {q_C_inputs : Addr} {r_C_inputs : List Value} {oc_C_inputs kV_C_inputs dc_C_inputs pm_C_inputs cd_C_inputs ct_C_inputs : Value} {od_C_inputs an_C_inputs : Option Addr} {sl_C_inputs : Array (Option Value)} {f_C_houses : Addr} {q_C_houses : Addr} {r_C_houses : List Value} {oc_C_houses kV_C_houses dc_C_houses pm_C_houses cd_C_houses ct_C_houses : Value} {od_C_houses an_C_houses : Option Addr} {sl_C_houses : Array (Option Value)} {f_C_levels : Addr} {q_C_levels : Addr} {r_C_levels : List Value} {oc_C_levels kV_C_levels dc_C_levels pm_C_levels cd_C_levels ct_C_levels : Value} {od_C_levels an_C_levels : Option Addr} {sl_C_levels : Array (Option Value)} {f_C_inputs_of : Addr} {oc_C_inputs_of kV_C_inputs_of dc_C_inputs_of pm_C_inputs_of cd_C_inputs_of ct_C_inputs_of : Value} {od_C_inputs_of an_C_inputs_of : Option Addr} {sl_C_inputs_of : Array (Option Value)} {f_C_meaning : Addr} {oc_C_meaning kV_C_meaning dc_C_meaning pm_C_meaning cd_C_meaning ct_C_meaning : Value} {od_C_meaning an_C_meaning : Option Addr} {sl_C_meaning : Array (Option Value)} {f_C_told : Addr} {oc_C_told kV_C_told dc_C_told pm_C_told cd_C_told ct_C_told : Value} {od_C_told an_C_told : Option Addr} {sl_C_told : Array (Option Value)} {f_C_eq : Addr} {oc_C_eq kV_C_eq dc_C_eq pm_C_eq cd_C_eq ct_C_eq : Value} {od_C_eq an_C_eq : Option Addr} {sl_C_eq : Array (Option Value)} {f_C_str : Addr} {oc_C_str kV_C_str dc_C_str pm_C_str cd_C_str ct_C_str : Value} {od_C_str an_C_str : Option Addr} {sl_C_str : Array (Option Value)} {oc_law kV_law dc_law pm_law cd_law ct_law : Value} {od_law an_law : Option Addr} {sl_law : Array (Option Value)} (X : K.In h) (G : h.Ns mainGlobals mg) (hfa : mg "law" = some (.ref fa))
    (aC : PySem.W.nsIn K mainGlobals "Circuit" = some (some (.ref C)))
    (pg : PySem.W.plainGet K C Str.empty = true)
    (ic : PySem.W.isClsIn K C = true)
    (po : PySem.W.plainOver K C = true)
    (sa : PySem.W.findIn K (.ref C) "__setattr__" = some (some (.builtin "object.__setattr__")))
    (ca : PySem.W.findIn K (.ref C) "__class__" = some (some (.builtin "object.__class__")))
    (cn : PySem.W.specialIn K (.builtin "object.__class__") "__get__" = some (some (.builtin "getset_descriptor.__get__")))
    (ct : PySem.W.takesIn K (.builtin "object.__class__") = some true)
    (cm : PySem.W.mroIn K C (.type "object") = some true)
    (ty : PySem.W.typeIn K (.ref C) = some (.type "type"))
    (nn : PySem.W.notFirst K C (.type "NoneType") = true)
    (nt : PySem.W.notFirst K C (.type "tuple") = true)
    (nq : PySem.W.notFirst K C (.type "str") = true)
    (ne : PySem.W.findIn K (.ref C) "__ne__" = some (some (.builtin "object.__ne__")))
    (mk : PySem.W.makesIn K C = true)
    (kc : PySem.W.keepIn K (.ref C) = true)
    (sa1 : PySem.W.findIn K (.ref C) "own_gates" = some (some (.ref p1)))
    (sb1 : PySem.W.specialIn K (.ref p1) "__get__" = some (some (.builtin "member_descriptor.__get__")))
    (sc1 : PySem.W.takesIn K (.ref p1) = some true)
    (sd1 : PySem.W.typeIn K (.ref p1) = some (.type "member_descriptor"))
    (se1 : PySem.W.slotIn K p1 C = some 0)
    (sa2 : PySem.W.findIn K (.ref C) "own_outputs" = some (some (.ref p2)))
    (sb2 : PySem.W.specialIn K (.ref p2) "__get__" = some (some (.builtin "member_descriptor.__get__")))
    (sc2 : PySem.W.takesIn K (.ref p2) = some true)
    (sd2 : PySem.W.typeIn K (.ref p2) = some (.type "member_descriptor"))
    (se2 : PySem.W.slotIn K p2 C = some 1)
    (z_len : PySem.W.nsIn K mainGlobals "len" = some none)
    (z_tuple : PySem.W.nsIn K mainGlobals "tuple" = some none)
    (z_list : PySem.W.nsIn K mainGlobals "list" = some none)
    (z_int : PySem.W.nsIn K mainGlobals "int" = some none)
    (z_bool : PySem.W.nsIn K mainGlobals "bool" = some none)
    (z_str : PySem.W.nsIn K mainGlobals "str" = some none)
    (z_isinstance : PySem.W.nsIn K mainGlobals "isinstance" = some none)
    (z_all : PySem.W.nsIn K mainGlobals "all" = some none)
    (z_enumerate : PySem.W.nsIn K mainGlobals "enumerate" = some none)
    (z_range : PySem.W.nsIn K mainGlobals "range" = some none)
    (z_max : PySem.W.nsIn K mainGlobals "max" = some none)
    (z_min : PySem.W.nsIn K mainGlobals "min" = some none)
    (z_abs : PySem.W.nsIn K mainGlobals "abs" = some none)
    (z_zip : PySem.W.nsIn K mainGlobals "zip" = some none)
    (z_sorted : PySem.W.nsIn K mainGlobals "sorted" = some none)
    (z_dict : PySem.W.nsIn K mainGlobals "dict" = some none)
    (k_LEAST_FIELD : PySem.W.nsIn K mainGlobals "LEAST_FIELD" = some (some (.int 5 t_LEAST_FIELD)))
    (k_MAX_FIELD : PySem.W.nsIn K mainGlobals "MAX_FIELD" = some (some (.int 997 t_MAX_FIELD)))
    (k_MOST_PART : PySem.W.nsIn K mainGlobals "MOST_PART" = some (some (.int 32 t_MOST_PART)))
    (k_MAX_GATES : PySem.W.nsIn K mainGlobals "MAX_GATES" = some (some (.int 60 t_MAX_GATES)))
    (k_MAX_PRODUCTS : PySem.W.nsIn K mainGlobals "MAX_PRODUCTS" = some (some (.int 12 t_MAX_PRODUCTS)))
    (k_MAX_INPUTS : PySem.W.nsIn K mainGlobals "MAX_INPUTS" = some (some (.int 8 t_MAX_INPUTS)))
    (k_MAX_OUTPUTS : PySem.W.nsIn K mainGlobals "MAX_OUTPUTS" = some (some (.int 6 t_MAX_OUTPUTS)))
    (k_MOST_NUMBER : PySem.W.nsIn K mainGlobals "MOST_NUMBER" = some (some (.int 996 t_MOST_NUMBER)))
    (k_MOST_HOUSE : PySem.W.nsIn K mainGlobals "MOST_HOUSE" = some (some (.int 9 t_MOST_HOUSE)))
    (k_INPUT : PySem.W.nsIn K mainGlobals "INPUT" = some (some (.str "input" t_INPUT)))
    (k_CONSTANT : PySem.W.nsIn K mainGlobals "CONSTANT" = some (some (.str "constant" t_CONSTANT)))
    (k_SUM : PySem.W.nsIn K mainGlobals "SUM" = some (some (.str "sum" t_SUM)))
    (k_MULTIPLE : PySem.W.nsIn K mainGlobals "MULTIPLE" = some (some (.str "times" t_MULTIPLE)))
    (k_PRODUCT : PySem.W.nsIn K mainGlobals "PRODUCT" = some (some (.str "product" t_PRODUCT)))
    (a_is_integer : PySem.W.nsIn K mainGlobals "is_integer" = some (some (.ref f_is_integer)))
    (l_is_integer : K.lookup f_is_integer = some ⟨oc_is_integer, od_is_integer, .func (PySem.W.fnOf "is_integer" "is_integer" (defArgs s_is_integer) (defBody s_is_integer) (defScope s_is_integer) .none kV_is_integer dc_is_integer pm_is_integer an_is_integer cd_is_integer ct_is_integer), sl_is_integer⟩)
    (c_is_integer : PySem.W.codeIn K cd_is_integer "is_integer" = true)
    (kp_is_integer : PySem.W.keepIn K (.ref f_is_integer) = true)
    (a_is_within : PySem.W.nsIn K mainGlobals "is_within" = some (some (.ref f_is_within)))
    (l_is_within : K.lookup f_is_within = some ⟨oc_is_within, od_is_within, .func (PySem.W.fnOf "is_within" "is_within" (defArgs s_is_within) (defBody s_is_within) (defScope s_is_within) .none kV_is_within dc_is_within pm_is_within an_is_within cd_is_within ct_is_within), sl_is_within⟩)
    (c_is_within : PySem.W.codeIn K cd_is_within "is_within" = true)
    (kp_is_within : PySem.W.keepIn K (.ref f_is_within) = true)
    (a_require_field : PySem.W.nsIn K mainGlobals "require_field_field" = some (some (.ref f_require_field)))
    (l_require_field : K.lookup f_require_field = some ⟨oc_require_field, od_require_field, .func (PySem.W.fnOf "require_field" "require_field" (defArgs s_require_field) (defBody s_require_field) (defScope s_require_field) .none kV_require_field dc_require_field pm_require_field an_require_field cd_require_field ct_require_field), sl_require_field⟩)
    (c_require_field : PySem.W.codeIn K cd_require_field "require_field" = true)
    (kp_require_field : PySem.W.keepIn K (.ref f_require_field) = true)
    (a_is_field : PySem.W.nsIn K mainGlobals "is_field" = some (some (.ref f_is_field)))
    (l_is_field : K.lookup f_is_field = some ⟨oc_is_field, od_is_field, .func (PySem.W.fnOf "is_field" "is_field" (defArgs s_is_field) (defBody s_is_field) (defScope s_is_field) .none kV_is_field dc_is_field pm_is_field an_is_field cd_is_field ct_is_field), sl_is_field⟩)
    (c_is_field : PySem.W.codeIn K cd_is_field "is_field" = true)
    (kp_is_field : PySem.W.keepIn K (.ref f_is_field) = true)
    (a_is_number : PySem.W.nsIn K mainGlobals "is_number" = some (some (.ref f_is_number)))
    (l_is_number : K.lookup f_is_number = some ⟨oc_is_number, od_is_number, .func (PySem.W.fnOf "is_number" "is_number" (defArgs s_is_number) (defBody s_is_number) (defScope s_is_number) .none kV_is_number dc_is_number pm_is_number an_is_number cd_is_number ct_is_number), sl_is_number⟩)
    (c_is_number : PySem.W.codeIn K cd_is_number "is_number" = true)
    (kp_is_number : PySem.W.keepIn K (.ref f_is_number) = true)
    (a_is_from : PySem.W.nsIn K mainGlobals "is_from" = some (some (.ref f_is_from)))
    (l_is_from : K.lookup f_is_from = some ⟨oc_is_from, od_is_from, .func (PySem.W.fnOf "is_from" "is_from" (defArgs s_is_from) (defBody s_is_from) (defScope s_is_from) .none kV_is_from dc_is_from pm_is_from an_is_from cd_is_from ct_is_from), sl_is_from⟩)
    (c_is_from : PySem.W.codeIn K cd_is_from "is_from" = true)
    (kp_is_from : PySem.W.keepIn K (.ref f_is_from) = true)
    (a_is_gate : PySem.W.nsIn K mainGlobals "is_gate" = some (some (.ref f_is_gate)))
    (l_is_gate : K.lookup f_is_gate = some ⟨oc_is_gate, od_is_gate, .func (PySem.W.fnOf "is_gate" "is_gate" (defArgs s_is_gate) (defBody s_is_gate) (defScope s_is_gate) .none kV_is_gate dc_is_gate pm_is_gate an_is_gate cd_is_gate ct_is_gate), sl_is_gate⟩)
    (c_is_gate : PySem.W.codeIn K cd_is_gate "is_gate" = true)
    (kp_is_gate : PySem.W.keepIn K (.ref f_is_gate) = true)
    (a_are_houses : PySem.W.nsIn K mainGlobals "are_houses" = some (some (.ref f_are_houses)))
    (l_are_houses : K.lookup f_are_houses = some ⟨oc_are_houses, od_are_houses, .func (PySem.W.fnOf "are_houses" "are_houses" (defArgs s_are_houses) (defBody s_are_houses) (defScope s_are_houses) .none kV_are_houses dc_are_houses pm_are_houses an_are_houses cd_are_houses ct_are_houses), sl_are_houses⟩)
    (c_are_houses : PySem.W.codeIn K cd_are_houses "are_houses" = true)
    (kp_are_houses : PySem.W.keepIn K (.ref f_are_houses) = true)
    (a_is_output : PySem.W.nsIn K mainGlobals "is_output" = some (some (.ref f_is_output)))
    (l_is_output : K.lookup f_is_output = some ⟨oc_is_output, od_is_output, .func (PySem.W.fnOf "is_output" "is_output" (defArgs s_is_output) (defBody s_is_output) (defScope s_is_output) .none kV_is_output dc_is_output pm_is_output an_is_output cd_is_output ct_is_output), sl_is_output⟩)
    (c_is_output : PySem.W.codeIn K cd_is_output "is_output" = true)
    (kp_is_output : PySem.W.keepIn K (.ref f_is_output) = true)
    (a_many_of : PySem.W.nsIn K mainGlobals "many_of" = some (some (.ref f_many_of)))
    (l_many_of : K.lookup f_many_of = some ⟨oc_many_of, od_many_of, .func (PySem.W.fnOf "many_of" "many_of" (defArgs s_many_of) (defBody s_many_of) (defScope s_many_of) .none kV_many_of dc_many_of pm_many_of an_many_of cd_many_of ct_many_of), sl_many_of⟩)
    (c_many_of : PySem.W.codeIn K cd_many_of "many_of" = true)
    (kp_many_of : PySem.W.keepIn K (.ref f_many_of) = true)
    (a_are_gates : PySem.W.nsIn K mainGlobals "are_gates" = some (some (.ref f_are_gates)))
    (l_are_gates : K.lookup f_are_gates = some ⟨oc_are_gates, od_are_gates, .func (PySem.W.fnOf "are_gates" "are_gates" (defArgs s_are_gates) (defBody s_are_gates) (defScope s_are_gates) .none kV_are_gates dc_are_gates pm_are_gates an_are_gates cd_are_gates ct_are_gates), sl_are_gates⟩)
    (c_are_gates : PySem.W.codeIn K cd_are_gates "are_gates" = true)
    (kp_are_gates : PySem.W.keepIn K (.ref f_are_gates) = true)
    (a_are_outputs : PySem.W.nsIn K mainGlobals "are_outputs" = some (some (.ref f_are_outputs)))
    (l_are_outputs : K.lookup f_are_outputs = some ⟨oc_are_outputs, od_are_outputs, .func (PySem.W.fnOf "are_outputs" "are_outputs" (defArgs s_are_outputs) (defBody s_are_outputs) (defScope s_are_outputs) .none kV_are_outputs dc_are_outputs pm_are_outputs an_are_outputs cd_are_outputs ct_are_outputs), sl_are_outputs⟩)
    (c_are_outputs : PySem.W.codeIn K cd_are_outputs "are_outputs" = true)
    (kp_are_outputs : PySem.W.keepIn K (.ref f_are_outputs) = true)
    (a_level_list : PySem.W.nsIn K mainGlobals "level_list" = some (some (.ref f_level_list)))
    (l_level_list : K.lookup f_level_list = some ⟨oc_level_list, od_level_list, .func (PySem.W.fnOf "level_list" "level_list" (defArgs s_level_list) (defBody s_level_list) (defScope s_level_list) .none kV_level_list dc_level_list pm_level_list an_level_list cd_level_list ct_level_list), sl_level_list⟩)
    (c_level_list : PySem.W.codeIn K cd_level_list "level_list" = true)
    (kp_level_list : PySem.W.keepIn K (.ref f_level_list) = true)
    (a_products_of : PySem.W.nsIn K mainGlobals "products_of" = some (some (.ref f_products_of)))
    (l_products_of : K.lookup f_products_of = some ⟨oc_products_of, od_products_of, .func (PySem.W.fnOf "products_of" "products_of" (defArgs s_products_of) (defBody s_products_of) (defScope s_products_of) .none kV_products_of dc_products_of pm_products_of an_products_of cd_products_of ct_products_of), sl_products_of⟩)
    (c_products_of : PySem.W.codeIn K cd_products_of "products_of" = true)
    (kp_products_of : PySem.W.keepIn K (.ref f_products_of) = true)
    (a_meaning_in : PySem.W.nsIn K mainGlobals "meaning_in" = some (some (.ref f_meaning_in)))
    (l_meaning_in : K.lookup f_meaning_in = some ⟨oc_meaning_in, od_meaning_in, .func (PySem.W.fnOf "meaning_in" "meaning_in" (defArgs s_meaning_in) (defBody s_meaning_in) (defScope s_meaning_in) .none kV_meaning_in dc_meaning_in pm_meaning_in an_meaning_in cd_meaning_in ct_meaning_in), sl_meaning_in⟩)
    (c_meaning_in : PySem.W.codeIn K cd_meaning_in "meaning_in" = true)
    (kp_meaning_in : PySem.W.keepIn K (.ref f_meaning_in) = true)
    (a_require_field2 : PySem.W.nsIn K mainGlobals "require_field_circuits" = some (some (.ref f_require_field2)))
    (l_require_field2 : K.lookup f_require_field2 = some ⟨oc_require_field2, od_require_field2, .func (PySem.W.fnOf "require_field" "require_field" (defArgs s_require_field2) (defBody s_require_field2) (defScope s_require_field2) .none kV_require_field2 dc_require_field2 pm_require_field2 an_require_field2 cd_require_field2 ct_require_field2), sl_require_field2⟩)
    (c_require_field2 : PySem.W.codeIn K cd_require_field2 "require_field" = true)
    (kp_require_field2 : PySem.W.keepIn K (.ref f_require_field2) = true)
    (a_are_numbers : PySem.W.nsIn K mainGlobals "are_numbers" = some (some (.ref f_are_numbers)))
    (l_are_numbers : K.lookup f_are_numbers = some ⟨oc_are_numbers, od_are_numbers, .func (PySem.W.fnOf "are_numbers" "are_numbers" (defArgs s_are_numbers) (defBody s_are_numbers) (defScope s_are_numbers) .none kV_are_numbers dc_are_numbers pm_are_numbers an_are_numbers cd_are_numbers ct_are_numbers), sl_are_numbers⟩)
    (c_are_numbers : PySem.W.codeIn K cd_are_numbers "are_numbers" = true)
    (kp_are_numbers : PySem.W.keepIn K (.ref f_are_numbers) = true)
    (a_require_numbers : PySem.W.nsIn K mainGlobals "require_numbers" = some (some (.ref f_require_numbers)))
    (l_require_numbers : K.lookup f_require_numbers = some ⟨oc_require_numbers, od_require_numbers, .func (PySem.W.fnOf "require_numbers" "require_numbers" (defArgs s_require_numbers) (defBody s_require_numbers) (defScope s_require_numbers) .none kV_require_numbers dc_require_numbers pm_require_numbers an_require_numbers cd_require_numbers ct_require_numbers), sl_require_numbers⟩)
    (c_require_numbers : PySem.W.codeIn K cd_require_numbers "require_numbers" = true)
    (kp_require_numbers : PySem.W.keepIn K (.ref f_require_numbers) = true)
    (a_law_dice : PySem.W.nsIn K mainGlobals "_law_dice" = some (some (.ref f_law_dice)))
    (l_law_dice : K.lookup f_law_dice = some ⟨oc_law_dice, od_law_dice, .func (PySem.W.fnOf "_law_dice" "_law_dice" (defArgs s_law_dice) (defBody s_law_dice) (defScope s_law_dice) .none kV_law_dice dc_law_dice pm_law_dice an_law_dice cd_law_dice ct_law_dice), sl_law_dice⟩)
    (c_law_dice : PySem.W.codeIn K cd_law_dice "_law_dice" = true)
    (kp_law_dice : PySem.W.keepIn K (.ref f_law_dice) = true)
    (a_law_roll : PySem.W.nsIn K mainGlobals "_law_roll" = some (some (.ref f_law_roll)))
    (l_law_roll : K.lookup f_law_roll = some ⟨oc_law_roll, od_law_roll, .func (PySem.W.fnOf "_law_roll" "_law_roll" (defArgs s_law_roll) (defBody s_law_roll) (defScope s_law_roll) .none kV_law_roll dc_law_roll pm_law_roll an_law_roll cd_law_roll ct_law_roll), sl_law_roll⟩)
    (c_law_roll : PySem.W.codeIn K cd_law_roll "_law_roll" = true)
    (kp_law_roll : PySem.W.keepIn K (.ref f_law_roll) = true)
    (a_law_pick : PySem.W.nsIn K mainGlobals "_law_pick" = some (some (.ref f_law_pick)))
    (l_law_pick : K.lookup f_law_pick = some ⟨oc_law_pick, od_law_pick, .func (PySem.W.fnOf "_law_pick" "_law_pick" (defArgs s_law_pick) (defBody s_law_pick) (defScope s_law_pick) .none kV_law_pick dc_law_pick pm_law_pick an_law_pick cd_law_pick ct_law_pick), sl_law_pick⟩)
    (c_law_pick : PySem.W.codeIn K cd_law_pick "_law_pick" = true)
    (kp_law_pick : PySem.W.keepIn K (.ref f_law_pick) = true)
    (a_law_mixed : PySem.W.nsIn K mainGlobals "_law_mixed" = some (some (.ref f_law_mixed)))
    (l_law_mixed : K.lookup f_law_mixed = some ⟨oc_law_mixed, od_law_mixed, .func (PySem.W.fnOf "_law_mixed" "_law_mixed" (defArgs s_law_mixed) (defBody s_law_mixed) (defScope s_law_mixed) .none kV_law_mixed dc_law_mixed pm_law_mixed an_law_mixed cd_law_mixed ct_law_mixed), sl_law_mixed⟩)
    (c_law_mixed : PySem.W.codeIn K cd_law_mixed "_law_mixed" = true)
    (kp_law_mixed : PySem.W.keepIn K (.ref f_law_mixed) = true)
    (a_law_dr_hall : PySem.W.nsIn K mainGlobals "_law_dr_hall" = some (some (.ref f_law_dr_hall)))
    (l_law_dr_hall : K.lookup f_law_dr_hall = some ⟨oc_law_dr_hall, od_law_dr_hall, .func (PySem.W.fnOf "_law_dr_hall" "_law_dr_hall" (defArgs s_law_dr_hall) (defBody s_law_dr_hall) (defScope s_law_dr_hall) .none kV_law_dr_hall dc_law_dr_hall pm_law_dr_hall an_law_dr_hall cd_law_dr_hall ct_law_dr_hall), sl_law_dr_hall⟩)
    (c_law_dr_hall : PySem.W.codeIn K cd_law_dr_hall "_law_dr_hall" = true)
    (kp_law_dr_hall : PySem.W.keepIn K (.ref f_law_dr_hall) = true)
    (a_law_dr_houses : PySem.W.nsIn K mainGlobals "_law_dr_houses" = some (some (.ref f_law_dr_houses)))
    (l_law_dr_houses : K.lookup f_law_dr_houses = some ⟨oc_law_dr_houses, od_law_dr_houses, .func (PySem.W.fnOf "_law_dr_houses" "_law_dr_houses" (defArgs s_law_dr_houses) (defBody s_law_dr_houses) (defScope s_law_dr_houses) .none kV_law_dr_houses dc_law_dr_houses pm_law_dr_houses an_law_dr_houses cd_law_dr_houses ct_law_dr_houses), sl_law_dr_houses⟩)
    (c_law_dr_houses : PySem.W.codeIn K cd_law_dr_houses "_law_dr_houses" = true)
    (kp_law_dr_houses : PySem.W.keepIn K (.ref f_law_dr_houses) = true)
    (a_law_dr_gate : PySem.W.nsIn K mainGlobals "_law_dr_gate" = some (some (.ref f_law_dr_gate)))
    (l_law_dr_gate : K.lookup f_law_dr_gate = some ⟨oc_law_dr_gate, od_law_dr_gate, .func (PySem.W.fnOf "_law_dr_gate" "_law_dr_gate" (defArgs s_law_dr_gate) (defBody s_law_dr_gate) (defScope s_law_dr_gate) .none kV_law_dr_gate dc_law_dr_gate pm_law_dr_gate an_law_dr_gate cd_law_dr_gate ct_law_dr_gate), sl_law_dr_gate⟩)
    (c_law_dr_gate : PySem.W.codeIn K cd_law_dr_gate "_law_dr_gate" = true)
    (kp_law_dr_gate : PySem.W.keepIn K (.ref f_law_dr_gate) = true)
    (a_law_dr_gates : PySem.W.nsIn K mainGlobals "_law_dr_gates" = some (some (.ref f_law_dr_gates)))
    (l_law_dr_gates : K.lookup f_law_dr_gates = some ⟨oc_law_dr_gates, od_law_dr_gates, .func (PySem.W.fnOf "_law_dr_gates" "_law_dr_gates" (defArgs s_law_dr_gates) (defBody s_law_dr_gates) (defScope s_law_dr_gates) .none kV_law_dr_gates dc_law_dr_gates pm_law_dr_gates an_law_dr_gates cd_law_dr_gates ct_law_dr_gates), sl_law_dr_gates⟩)
    (c_law_dr_gates : PySem.W.codeIn K cd_law_dr_gates "_law_dr_gates" = true)
    (kp_law_dr_gates : PySem.W.keepIn K (.ref f_law_dr_gates) = true)
    (a_law_dr_outputs : PySem.W.nsIn K mainGlobals "_law_dr_outputs" = some (some (.ref f_law_dr_outputs)))
    (l_law_dr_outputs : K.lookup f_law_dr_outputs = some ⟨oc_law_dr_outputs, od_law_dr_outputs, .func (PySem.W.fnOf "_law_dr_outputs" "_law_dr_outputs" (defArgs s_law_dr_outputs) (defBody s_law_dr_outputs) (defScope s_law_dr_outputs) .none kV_law_dr_outputs dc_law_dr_outputs pm_law_dr_outputs an_law_dr_outputs cd_law_dr_outputs ct_law_dr_outputs), sl_law_dr_outputs⟩)
    (c_law_dr_outputs : PySem.W.codeIn K cd_law_dr_outputs "_law_dr_outputs" = true)
    (kp_law_dr_outputs : PySem.W.keepIn K (.ref f_law_dr_outputs) = true)
    (a_law_dr_numbers : PySem.W.nsIn K mainGlobals "_law_dr_numbers" = some (some (.ref f_law_dr_numbers)))
    (l_law_dr_numbers : K.lookup f_law_dr_numbers = some ⟨oc_law_dr_numbers, od_law_dr_numbers, .func (PySem.W.fnOf "_law_dr_numbers" "_law_dr_numbers" (defArgs s_law_dr_numbers) (defBody s_law_dr_numbers) (defScope s_law_dr_numbers) .none kV_law_dr_numbers dc_law_dr_numbers pm_law_dr_numbers an_law_dr_numbers cd_law_dr_numbers ct_law_dr_numbers), sl_law_dr_numbers⟩)
    (c_law_dr_numbers : PySem.W.codeIn K cd_law_dr_numbers "_law_dr_numbers" = true)
    (kp_law_dr_numbers : PySem.W.keepIn K (.ref f_law_dr_numbers) = true)
    (a_law_dr_inputs : PySem.W.nsIn K mainGlobals "_law_dr_inputs" = some (some (.ref f_law_dr_inputs)))
    (l_law_dr_inputs : K.lookup f_law_dr_inputs = some ⟨oc_law_dr_inputs, od_law_dr_inputs, .func (PySem.W.fnOf "_law_dr_inputs" "_law_dr_inputs" (defArgs s_law_dr_inputs) (defBody s_law_dr_inputs) (defScope s_law_dr_inputs) .none kV_law_dr_inputs dc_law_dr_inputs pm_law_dr_inputs an_law_dr_inputs cd_law_dr_inputs ct_law_dr_inputs), sl_law_dr_inputs⟩)
    (c_law_dr_inputs : PySem.W.codeIn K cd_law_dr_inputs "_law_dr_inputs" = true)
    (kp_law_dr_inputs : PySem.W.keepIn K (.ref f_law_dr_inputs) = true)
    (a_law_ci_levels : PySem.W.nsIn K mainGlobals "_law_ci_levels" = some (some (.ref f_law_ci_levels)))
    (l_law_ci_levels : K.lookup f_law_ci_levels = some ⟨oc_law_ci_levels, od_law_ci_levels, .func (PySem.W.fnOf "_law_ci_levels" "_law_ci_levels" (defArgs s_law_ci_levels) (defBody s_law_ci_levels) (defScope s_law_ci_levels) .none kV_law_ci_levels dc_law_ci_levels pm_law_ci_levels an_law_ci_levels cd_law_ci_levels ct_law_ci_levels), sl_law_ci_levels⟩)
    (c_law_ci_levels : PySem.W.codeIn K cd_law_ci_levels "_law_ci_levels" = true)
    (kp_law_ci_levels : PySem.W.keepIn K (.ref f_law_ci_levels) = true)
    (a_law_ci_products : PySem.W.nsIn K mainGlobals "_law_ci_products" = some (some (.ref f_law_ci_products)))
    (l_law_ci_products : K.lookup f_law_ci_products = some ⟨oc_law_ci_products, od_law_ci_products, .func (PySem.W.fnOf "_law_ci_products" "_law_ci_products" (defArgs s_law_ci_products) (defBody s_law_ci_products) (defScope s_law_ci_products) .none kV_law_ci_products dc_law_ci_products pm_law_ci_products an_law_ci_products cd_law_ci_products ct_law_ci_products), sl_law_ci_products⟩)
    (c_law_ci_products : PySem.W.codeIn K cd_law_ci_products "_law_ci_products" = true)
    (kp_law_ci_products : PySem.W.keepIn K (.ref f_law_ci_products) = true)
    (a_law_ci_inputs : PySem.W.nsIn K mainGlobals "_law_ci_inputs" = some (some (.ref f_law_ci_inputs)))
    (l_law_ci_inputs : K.lookup f_law_ci_inputs = some ⟨oc_law_ci_inputs, od_law_ci_inputs, .func (PySem.W.fnOf "_law_ci_inputs" "_law_ci_inputs" (defArgs s_law_ci_inputs) (defBody s_law_ci_inputs) (defScope s_law_ci_inputs) .none kV_law_ci_inputs dc_law_ci_inputs pm_law_ci_inputs an_law_ci_inputs cd_law_ci_inputs ct_law_ci_inputs), sl_law_ci_inputs⟩)
    (c_law_ci_inputs : PySem.W.codeIn K cd_law_ci_inputs "_law_ci_inputs" = true)
    (kp_law_ci_inputs : PySem.W.keepIn K (.ref f_law_ci_inputs) = true)
    (a_law_ci_meaning : PySem.W.nsIn K mainGlobals "_law_ci_meaning" = some (some (.ref f_law_ci_meaning)))
    (l_law_ci_meaning : K.lookup f_law_ci_meaning = some ⟨oc_law_ci_meaning, od_law_ci_meaning, .func (PySem.W.fnOf "_law_ci_meaning" "_law_ci_meaning" (defArgs s_law_ci_meaning) (defBody s_law_ci_meaning) (defScope s_law_ci_meaning) .none kV_law_ci_meaning dc_law_ci_meaning pm_law_ci_meaning an_law_ci_meaning cd_law_ci_meaning ct_law_ci_meaning), sl_law_ci_meaning⟩)
    (c_law_ci_meaning : PySem.W.codeIn K cd_law_ci_meaning "_law_ci_meaning" = true)
    (kp_law_ci_meaning : PySem.W.keepIn K (.ref f_law_ci_meaning) = true)
    (a_law_ci_told : PySem.W.nsIn K mainGlobals "_law_ci_told" = some (some (.ref f_law_ci_told)))
    (l_law_ci_told : K.lookup f_law_ci_told = some ⟨oc_law_ci_told, od_law_ci_told, .func (PySem.W.fnOf "_law_ci_told" "_law_ci_told" (defArgs s_law_ci_told) (defBody s_law_ci_told) (defScope s_law_ci_told) .none kV_law_ci_told dc_law_ci_told pm_law_ci_told an_law_ci_told cd_law_ci_told ct_law_ci_told), sl_law_ci_told⟩)
    (c_law_ci_told : PySem.W.codeIn K cd_law_ci_told "_law_ci_told" = true)
    (kp_law_ci_told : PySem.W.keepIn K (.ref f_law_ci_told) = true)
    (a_law_right : PySem.W.nsIn K mainGlobals "_law_right" = some (some (.ref f_law_right)))
    (l_law_right : K.lookup f_law_right = some ⟨oc_law_right, od_law_right, .func (PySem.W.fnOf "_law_right" "_law_right" (defArgs s_law_right) (defBody s_law_right) (defScope s_law_right) .none kV_law_right dc_law_right pm_law_right an_law_right cd_law_right ct_law_right), sl_law_right⟩)
    (c_law_right : PySem.W.codeIn K cd_law_right "_law_right" = true)
    (kp_law_right : PySem.W.keepIn K (.ref f_law_right) = true)
    (a_C_init : PySem.W.findIn K (.ref C) "__init__" = some (some (.ref f_C_init)))
    (b_C_init : PySem.W.isFn K (.ref f_C_init) = true)
    (l_C_init : K.lookup f_C_init = some ⟨oc_C_init, od_C_init, .func (PySem.W.fnOf "__init__" "Circuit.__init__" (defArgs s_C_init) (defBody s_C_init) (defScope s_C_init) .none kV_C_init dc_C_init pm_C_init an_C_init cd_C_init ct_C_init), sl_C_init⟩)
    (c_C_init : PySem.W.codeIn K cd_C_init "Circuit.__init__" = true)
    (kp_C_init : PySem.W.keepIn K (.ref f_C_init) = true)
    (a_C_gates : PySem.W.findIn K (.ref C) "gates" = some (some (.ref q_C_gates)))
    (b_C_gates : PySem.W.specialIn K (.ref q_C_gates) "__get__" = some (some (.builtin "property.__get__")))
    (d_C_gates : PySem.W.takesIn K (.ref q_C_gates) = some true)
    (e_C_gates : PySem.W.recIn K q_C_gates "property" = some (.ref f_C_gates :: r_C_gates))
    (l_C_gates : K.lookup f_C_gates = some ⟨oc_C_gates, od_C_gates, .func (PySem.W.fnOf "gates" "Circuit.gates" (defArgs s_C_gates) (defBody s_C_gates) (defScope s_C_gates) .none kV_C_gates dc_C_gates pm_C_gates an_C_gates cd_C_gates ct_C_gates), sl_C_gates⟩)
    (c_C_gates : PySem.W.codeIn K cd_C_gates "Circuit.gates" = true)
    (kp_C_gates : PySem.W.keepIn K (.ref f_C_gates) = true)
    (a_C_outputs : PySem.W.findIn K (.ref C) "outputs" = some (some (.ref q_C_outputs)))
    (b_C_outputs : PySem.W.specialIn K (.ref q_C_outputs) "__get__" = some (some (.builtin "property.__get__")))
    (d_C_outputs : PySem.W.takesIn K (.ref q_C_outputs) = some true)
    (e_C_outputs : PySem.W.recIn K q_C_outputs "property" = some (.ref f_C_outputs :: r_C_outputs))
    (l_C_outputs : K.lookup f_C_outputs = some ⟨oc_C_outputs, od_C_outputs, .func (PySem.W.fnOf "outputs" "Circuit.outputs" (defArgs s_C_outputs) (defBody s_C_outputs) (defScope s_C_outputs) .none kV_C_outputs dc_C_outputs pm_C_outputs an_C_outputs cd_C_outputs ct_C_outputs), sl_C_outputs⟩)
    (c_C_outputs : PySem.W.codeIn K cd_C_outputs "Circuit.outputs" = true)
    (kp_C_outputs : PySem.W.keepIn K (.ref f_C_outputs) = true)
    (a_C_inputs : PySem.W.findIn K (.ref C) "inputs" = some (some (.ref q_C_inputs)))
    (b_C_inputs : PySem.W.specialIn K (.ref q_C_inputs) "__get__" = some (some (.builtin "property.__get__")))
    (d_C_inputs : PySem.W.takesIn K (.ref q_C_inputs) = some true)
    (e_C_inputs : PySem.W.recIn K q_C_inputs "property" = some (.ref f_C_inputs :: r_C_inputs))
    (l_C_inputs : K.lookup f_C_inputs = some ⟨oc_C_inputs, od_C_inputs, .func (PySem.W.fnOf "inputs" "Circuit.inputs" (defArgs s_C_inputs) (defBody s_C_inputs) (defScope s_C_inputs) .none kV_C_inputs dc_C_inputs pm_C_inputs an_C_inputs cd_C_inputs ct_C_inputs), sl_C_inputs⟩)
    (c_C_inputs : PySem.W.codeIn K cd_C_inputs "Circuit.inputs" = true)
    (kp_C_inputs : PySem.W.keepIn K (.ref f_C_inputs) = true)
    (a_C_houses : PySem.W.findIn K (.ref C) "houses" = some (some (.ref q_C_houses)))
    (b_C_houses : PySem.W.specialIn K (.ref q_C_houses) "__get__" = some (some (.builtin "property.__get__")))
    (d_C_houses : PySem.W.takesIn K (.ref q_C_houses) = some true)
    (e_C_houses : PySem.W.recIn K q_C_houses "property" = some (.ref f_C_houses :: r_C_houses))
    (l_C_houses : K.lookup f_C_houses = some ⟨oc_C_houses, od_C_houses, .func (PySem.W.fnOf "houses" "Circuit.houses" (defArgs s_C_houses) (defBody s_C_houses) (defScope s_C_houses) .none kV_C_houses dc_C_houses pm_C_houses an_C_houses cd_C_houses ct_C_houses), sl_C_houses⟩)
    (c_C_houses : PySem.W.codeIn K cd_C_houses "Circuit.houses" = true)
    (kp_C_houses : PySem.W.keepIn K (.ref f_C_houses) = true)
    (a_C_levels : PySem.W.findIn K (.ref C) "levels" = some (some (.ref q_C_levels)))
    (b_C_levels : PySem.W.specialIn K (.ref q_C_levels) "__get__" = some (some (.builtin "property.__get__")))
    (d_C_levels : PySem.W.takesIn K (.ref q_C_levels) = some true)
    (e_C_levels : PySem.W.recIn K q_C_levels "property" = some (.ref f_C_levels :: r_C_levels))
    (l_C_levels : K.lookup f_C_levels = some ⟨oc_C_levels, od_C_levels, .func (PySem.W.fnOf "levels" "Circuit.levels" (defArgs s_C_levels) (defBody s_C_levels) (defScope s_C_levels) .none kV_C_levels dc_C_levels pm_C_levels an_C_levels cd_C_levels ct_C_levels), sl_C_levels⟩)
    (c_C_levels : PySem.W.codeIn K cd_C_levels "Circuit.levels" = true)
    (kp_C_levels : PySem.W.keepIn K (.ref f_C_levels) = true)
    (a_C_inputs_of : PySem.W.findIn K (.ref C) "inputs_of" = some (some (.ref f_C_inputs_of)))
    (b_C_inputs_of : PySem.W.isFn K (.ref f_C_inputs_of) = true)
    (l_C_inputs_of : K.lookup f_C_inputs_of = some ⟨oc_C_inputs_of, od_C_inputs_of, .func (PySem.W.fnOf "inputs_of" "Circuit.inputs_of" (defArgs s_C_inputs_of) (defBody s_C_inputs_of) (defScope s_C_inputs_of) .none kV_C_inputs_of dc_C_inputs_of pm_C_inputs_of an_C_inputs_of cd_C_inputs_of ct_C_inputs_of), sl_C_inputs_of⟩)
    (c_C_inputs_of : PySem.W.codeIn K cd_C_inputs_of "Circuit.inputs_of" = true)
    (kp_C_inputs_of : PySem.W.keepIn K (.ref f_C_inputs_of) = true)
    (a_C_meaning : PySem.W.findIn K (.ref C) "meaning" = some (some (.ref f_C_meaning)))
    (b_C_meaning : PySem.W.isFn K (.ref f_C_meaning) = true)
    (l_C_meaning : K.lookup f_C_meaning = some ⟨oc_C_meaning, od_C_meaning, .func (PySem.W.fnOf "meaning" "Circuit.meaning" (defArgs s_C_meaning) (defBody s_C_meaning) (defScope s_C_meaning) .none kV_C_meaning dc_C_meaning pm_C_meaning an_C_meaning cd_C_meaning ct_C_meaning), sl_C_meaning⟩)
    (c_C_meaning : PySem.W.codeIn K cd_C_meaning "Circuit.meaning" = true)
    (kp_C_meaning : PySem.W.keepIn K (.ref f_C_meaning) = true)
    (a_C_told : PySem.W.findIn K (.ref C) "told" = some (some (.ref f_C_told)))
    (b_C_told : PySem.W.isFn K (.ref f_C_told) = true)
    (l_C_told : K.lookup f_C_told = some ⟨oc_C_told, od_C_told, .func (PySem.W.fnOf "told" "Circuit.told" (defArgs s_C_told) (defBody s_C_told) (defScope s_C_told) .none kV_C_told dc_C_told pm_C_told an_C_told cd_C_told ct_C_told), sl_C_told⟩)
    (c_C_told : PySem.W.codeIn K cd_C_told "Circuit.told" = true)
    (kp_C_told : PySem.W.keepIn K (.ref f_C_told) = true)
    (a_C_eq : PySem.W.findIn K (.ref C) "__eq__" = some (some (.ref f_C_eq)))
    (b_C_eq : PySem.W.isFn K (.ref f_C_eq) = true)
    (l_C_eq : K.lookup f_C_eq = some ⟨oc_C_eq, od_C_eq, .func (PySem.W.fnOf "__eq__" "Circuit.__eq__" (defArgs s_C_eq) (defBody s_C_eq) (defScope s_C_eq) .none kV_C_eq dc_C_eq pm_C_eq an_C_eq cd_C_eq ct_C_eq), sl_C_eq⟩)
    (c_C_eq : PySem.W.codeIn K cd_C_eq "Circuit.__eq__" = true)
    (kp_C_eq : PySem.W.keepIn K (.ref f_C_eq) = true)
    (a_C_str : PySem.W.findIn K (.ref C) "__str__" = some (some (.ref f_C_str)))
    (b_C_str : PySem.W.isFn K (.ref f_C_str) = true)
    (l_C_str : K.lookup f_C_str = some ⟨oc_C_str, od_C_str, .func (PySem.W.fnOf "__str__" "Circuit.__str__" (defArgs s_C_str) (defBody s_C_str) (defScope s_C_str) .none kV_C_str dc_C_str pm_C_str an_C_str cd_C_str ct_C_str), sl_C_str⟩)
    (c_C_str : PySem.W.codeIn K cd_C_str "Circuit.__str__" = true)
    (kp_C_str : PySem.W.keepIn K (.ref f_C_str) = true)
    (a_law : PySem.W.nsIn K mainGlobals "law" = some (some (.ref fL)))
    (l_law : K.lookup fL = some ⟨oc_law, od_law, .func (PySem.W.fnOf "law" "law" (defArgs s_law) (defBody s_law) (defScope s_law) .none kV_law dc_law pm_law an_law cd_law ct_law), sl_law⟩)
    (c_law : PySem.W.codeIn K cd_law "law" = true)
    (kp_law : PySem.W.keepIn K (.ref fL) = true)
    : ∃ fd : FuncData, (∀ (s : Shared) (v : Value), BindsTo s fd ⟨[v], []⟩ [("_law_script", v)]) ∧ ∀ base : Heap, K.In base → base.Ns mainGlobals mg → FnOk l.prog w K mg base CX0 10 fa fd ["_law_script"] (spLaw K) := by
  have e := hfa.symm.trans (PySem.W.mg_of X G a_law)
  cases e
  have GL : Glo mg := ⟨PySem.W.mg_none_of X G z_len, PySem.W.mg_none_of X G z_tuple, PySem.W.mg_none_of X G z_list, PySem.W.mg_none_of X G z_int, PySem.W.mg_none_of X G z_bool, PySem.W.mg_none_of X G z_str, PySem.W.mg_none_of X G z_isinstance, PySem.W.mg_none_of X G z_all, PySem.W.mg_none_of X G z_enumerate, PySem.W.mg_none_of X G z_range, PySem.W.mg_none_of X G z_max, PySem.W.mg_none_of X G z_min, PySem.W.mg_none_of X G z_abs, PySem.W.mg_none_of X G z_zip, PySem.W.mg_none_of X G z_sorted, PySem.W.mg_none_of X G z_dict, ⟨_, PySem.W.mg_of X G k_LEAST_FIELD⟩, ⟨_, PySem.W.mg_of X G k_MAX_FIELD⟩, ⟨_, PySem.W.mg_of X G k_MOST_PART⟩, ⟨_, PySem.W.mg_of X G k_MAX_GATES⟩, ⟨_, PySem.W.mg_of X G k_MAX_PRODUCTS⟩, ⟨_, PySem.W.mg_of X G k_MAX_INPUTS⟩, ⟨_, PySem.W.mg_of X G k_MAX_OUTPUTS⟩, ⟨_, PySem.W.mg_of X G k_MOST_NUMBER⟩, ⟨_, PySem.W.mg_of X G k_MOST_HOUSE⟩, ⟨_, PySem.W.mg_of X G k_INPUT⟩, ⟨_, PySem.W.mg_of X G k_CONSTANT⟩, ⟨_, PySem.W.mg_of X G k_SUM⟩, ⟨_, PySem.W.mg_of X G k_MULTIPLE⟩, ⟨_, PySem.W.mg_of X G k_PRODUCT⟩⟩
  have Ci : CiF K mg C := ⟨⟨pg, ic, po, sa⟩, ⟨ca, cn, ct, cm⟩, ⟨p1, ⟨sa1, sb1, sc1, sd1, se1, by decide⟩⟩, ⟨p2, ⟨sa2, sb2, sc2, sd2, se2, by decide⟩⟩, PySem.W.mg_of X G aC, kit_self, kit_no ic ty sub_none, kit_no ic ty sub_tuple, kit_no ic ty sub_str, nn, nt, nq, ne⟩
  refine ⟨PySem.W.fnOf "law" "law" (defArgs s_law) (defBody s_law) (defScope s_law) .none kV_law dc_law pm_law an_law cd_law ct_law, fun s v => .of_eq rfl, fun base _ _ => ?_⟩
  exact all_cal GL Ci
    (funX_mk X G a_is_integer ⟨_, _, _, _, _, _, _, _, _, l_is_integer, c_is_integer, kp_is_integer⟩ (fun _ _ _ _ _ _ us hl => match us, hl with | [_], _ => rfl))
    (funX_mk X G a_is_within ⟨_, _, _, _, _, _, _, _, _, l_is_within, c_is_within, kp_is_within⟩ (fun _ _ _ _ _ _ us hl => match us, hl with | [_, _, _], _ => rfl))
    (funX_mk X G a_require_field ⟨_, _, _, _, _, _, _, _, _, l_require_field, c_require_field, kp_require_field⟩ (fun _ _ _ _ _ _ us hl => match us, hl with | [_], _ => rfl))
    (funX_mk X G a_is_field ⟨_, _, _, _, _, _, _, _, _, l_is_field, c_is_field, kp_is_field⟩ (fun _ _ _ _ _ _ us hl => match us, hl with | [_], _ => rfl))
    (funX_mk X G a_is_number ⟨_, _, _, _, _, _, _, _, _, l_is_number, c_is_number, kp_is_number⟩ (fun _ _ _ _ _ _ us hl => match us, hl with | [_, _], _ => rfl))
    (funX_mk X G a_is_from ⟨_, _, _, _, _, _, _, _, _, l_is_from, c_is_from, kp_is_from⟩ (fun _ _ _ _ _ _ us hl => match us, hl with | [_, _, _], _ => rfl))
    (funX_mk X G a_is_gate ⟨_, _, _, _, _, _, _, _, _, l_is_gate, c_is_gate, kp_is_gate⟩ (fun _ _ _ _ _ _ us hl => match us, hl with | [_, _], _ => rfl))
    (funX_mk X G a_are_houses ⟨_, _, _, _, _, _, _, _, _, l_are_houses, c_are_houses, kp_are_houses⟩ (fun _ _ _ _ _ _ us hl => match us, hl with | [_], _ => rfl))
    (funX_mk X G a_is_output ⟨_, _, _, _, _, _, _, _, _, l_is_output, c_is_output, kp_is_output⟩ (fun _ _ _ _ _ _ us hl => match us, hl with | [_, _], _ => rfl))
    (funX_mk X G a_many_of ⟨_, _, _, _, _, _, _, _, _, l_many_of, c_many_of, kp_many_of⟩ (fun _ _ _ _ _ _ us hl => match us, hl with | [_, _], _ => rfl))
    (funX_mk X G a_are_gates ⟨_, _, _, _, _, _, _, _, _, l_are_gates, c_are_gates, kp_are_gates⟩ (fun _ _ _ _ _ _ us hl => match us, hl with | [_], _ => rfl))
    (funX_mk X G a_are_outputs ⟨_, _, _, _, _, _, _, _, _, l_are_outputs, c_are_outputs, kp_are_outputs⟩ (fun _ _ _ _ _ _ us hl => match us, hl with | [_, _], _ => rfl))
    (funX_mk X G a_level_list ⟨_, _, _, _, _, _, _, _, _, l_level_list, c_level_list, kp_level_list⟩ (fun _ _ _ _ _ _ us hl => match us, hl with | [_], _ => rfl))
    (funX_mk X G a_products_of ⟨_, _, _, _, _, _, _, _, _, l_products_of, c_products_of, kp_products_of⟩ (fun _ _ _ _ _ _ us hl => match us, hl with | [_], _ => rfl))
    (funX_mk X G a_meaning_in ⟨_, _, _, _, _, _, _, _, _, l_meaning_in, c_meaning_in, kp_meaning_in⟩ (fun _ _ _ _ _ _ us hl => match us, hl with | [_, _, _], _ => rfl))
    (funX_mk X G a_require_field2 ⟨_, _, _, _, _, _, _, _, _, l_require_field2, c_require_field2, kp_require_field2⟩ (fun _ _ _ _ _ _ us hl => match us, hl with | [_], _ => rfl))
    (funX_mk X G a_are_numbers ⟨_, _, _, _, _, _, _, _, _, l_are_numbers, c_are_numbers, kp_are_numbers⟩ (fun _ _ _ _ _ _ us hl => match us, hl with | [_, _, _], _ => rfl))
    (funX_mk X G a_require_numbers ⟨_, _, _, _, _, _, _, _, _, l_require_numbers, c_require_numbers, kp_require_numbers⟩ (fun _ _ _ _ _ _ us hl => match us, hl with | [_, _, _], _ => rfl))
    (funX_mk X G a_law_dice ⟨_, _, _, _, _, _, _, _, _, l_law_dice, c_law_dice, kp_law_dice⟩ (fun _ _ _ _ _ _ us hl => match us, hl with | [_, _], _ => rfl))
    (funX_mk X G a_law_roll ⟨_, _, _, _, _, _, _, _, _, l_law_roll, c_law_roll, kp_law_roll⟩ (fun _ _ _ _ _ _ us hl => match us, hl with | [_, _], _ => rfl))
    (funX_mk X G a_law_pick ⟨_, _, _, _, _, _, _, _, _, l_law_pick, c_law_pick, kp_law_pick⟩ (fun _ _ _ _ _ _ us hl => match us, hl with | [_, _], _ => rfl))
    (funX_mk X G a_law_mixed ⟨_, _, _, _, _, _, _, _, _, l_law_mixed, c_law_mixed, kp_law_mixed⟩ (fun _ _ _ _ _ _ us hl => match us, hl with | [_, _], _ => rfl))
    (funX_mk X G a_law_dr_hall ⟨_, _, _, _, _, _, _, _, _, l_law_dr_hall, c_law_dr_hall, kp_law_dr_hall⟩ (fun _ _ _ _ _ _ us hl => match us, hl with | [_, _], _ => rfl))
    (funX_mk X G a_law_dr_houses ⟨_, _, _, _, _, _, _, _, _, l_law_dr_houses, c_law_dr_houses, kp_law_dr_houses⟩ (fun _ _ _ _ _ _ us hl => match us, hl with | [_, _], _ => rfl))
    (funX_mk X G a_law_dr_gate ⟨_, _, _, _, _, _, _, _, _, l_law_dr_gate, c_law_dr_gate, kp_law_dr_gate⟩ (fun _ _ _ _ _ _ us hl => match us, hl with | [_, _, _, _], _ => rfl))
    (funX_mk X G a_law_dr_gates ⟨_, _, _, _, _, _, _, _, _, l_law_dr_gates, c_law_dr_gates, kp_law_dr_gates⟩ (fun _ _ _ _ _ _ us hl => match us, hl with | [_, _, _, _, _], _ => rfl))
    (funX_mk X G a_law_dr_outputs ⟨_, _, _, _, _, _, _, _, _, l_law_dr_outputs, c_law_dr_outputs, kp_law_dr_outputs⟩ (fun _ _ _ _ _ _ us hl => match us, hl with | [_, _, _], _ => rfl))
    (funX_mk X G a_law_dr_numbers ⟨_, _, _, _, _, _, _, _, _, l_law_dr_numbers, c_law_dr_numbers, kp_law_dr_numbers⟩ (fun _ _ _ _ _ _ us hl => match us, hl with | [_, _, _], _ => rfl))
    (funX_mk X G a_law_dr_inputs ⟨_, _, _, _, _, _, _, _, _, l_law_dr_inputs, c_law_dr_inputs, kp_law_dr_inputs⟩ (fun _ _ _ _ _ _ us hl => match us, hl with | [_, _, _], _ => rfl))
    (funX_mk X G a_law_ci_levels ⟨_, _, _, _, _, _, _, _, _, l_law_ci_levels, c_law_ci_levels, kp_law_ci_levels⟩ (fun _ _ _ _ _ _ us hl => match us, hl with | [_], _ => rfl))
    (funX_mk X G a_law_ci_products ⟨_, _, _, _, _, _, _, _, _, l_law_ci_products, c_law_ci_products, kp_law_ci_products⟩ (fun _ _ _ _ _ _ us hl => match us, hl with | [_], _ => rfl))
    (funX_mk X G a_law_ci_inputs ⟨_, _, _, _, _, _, _, _, _, l_law_ci_inputs, c_law_ci_inputs, kp_law_ci_inputs⟩ (fun _ _ _ _ _ _ us hl => match us, hl with | [_], _ => rfl))
    (funX_mk X G a_law_ci_meaning ⟨_, _, _, _, _, _, _, _, _, l_law_ci_meaning, c_law_ci_meaning, kp_law_ci_meaning⟩ (fun _ _ _ _ _ _ us hl => match us, hl with | [_, _, _], _ => rfl))
    (funX_mk X G a_law_ci_told ⟨_, _, _, _, _, _, _, _, _, l_law_ci_told, c_law_ci_told, kp_law_ci_told⟩ (fun _ _ _ _ _ _ us hl => match us, hl with | [_, _, _, _], _ => rfl))
    (funX_mk X G a_law_right ⟨_, _, _, _, _, _, _, _, _, l_law_right, c_law_right, kp_law_right⟩ (fun _ _ _ _ _ _ us hl => match us, hl with | [_], _ => rfl))
    (funAt_mk ⟨mk, a_C_init, b_C_init, kc⟩ ⟨_, _, _, _, _, _, _, _, _, l_C_init, c_C_init, kp_C_init⟩ (fun _ _ _ _ _ _ us hl => match us, hl with | [_, _, _], _ => rfl))
    (funAt_mk ⟨q_C_gates, a_C_gates, b_C_gates, d_C_gates, _, e_C_gates⟩ ⟨_, _, _, _, _, _, _, _, _, l_C_gates, c_C_gates, kp_C_gates⟩ (fun _ _ _ _ _ _ us hl => match us, hl with | [_], _ => rfl))
    (funAt_mk ⟨q_C_outputs, a_C_outputs, b_C_outputs, d_C_outputs, _, e_C_outputs⟩ ⟨_, _, _, _, _, _, _, _, _, l_C_outputs, c_C_outputs, kp_C_outputs⟩ (fun _ _ _ _ _ _ us hl => match us, hl with | [_], _ => rfl))
    (funAt_mk ⟨q_C_inputs, a_C_inputs, b_C_inputs, d_C_inputs, _, e_C_inputs⟩ ⟨_, _, _, _, _, _, _, _, _, l_C_inputs, c_C_inputs, kp_C_inputs⟩ (fun _ _ _ _ _ _ us hl => match us, hl with | [_], _ => rfl))
    (funAt_mk ⟨q_C_houses, a_C_houses, b_C_houses, d_C_houses, _, e_C_houses⟩ ⟨_, _, _, _, _, _, _, _, _, l_C_houses, c_C_houses, kp_C_houses⟩ (fun _ _ _ _ _ _ us hl => match us, hl with | [_], _ => rfl))
    (funAt_mk ⟨q_C_levels, a_C_levels, b_C_levels, d_C_levels, _, e_C_levels⟩ ⟨_, _, _, _, _, _, _, _, _, l_C_levels, c_C_levels, kp_C_levels⟩ (fun _ _ _ _ _ _ us hl => match us, hl with | [_], _ => rfl))
    (funAt_mk ⟨a_C_inputs_of, b_C_inputs_of, kp_C_inputs_of⟩ ⟨_, _, _, _, _, _, _, _, _, l_C_inputs_of, c_C_inputs_of, kp_C_inputs_of⟩ (fun _ _ _ _ _ _ us hl => match us, hl with | [_, _], _ => rfl))
    (funAt_mk ⟨a_C_meaning, b_C_meaning, kp_C_meaning⟩ ⟨_, _, _, _, _, _, _, _, _, l_C_meaning, c_C_meaning, kp_C_meaning⟩ (fun _ _ _ _ _ _ us hl => match us, hl with | [_, _, _], _ => rfl))
    (funAt_mk ⟨a_C_told, b_C_told, kp_C_told⟩ ⟨_, _, _, _, _, _, _, _, _, l_C_told, c_C_told, kp_C_told⟩ (fun _ _ _ _ _ _ us hl => match us, hl with | [_, _, _], _ => rfl))
    (funAt_mk ⟨a_C_eq, b_C_eq⟩ ⟨_, _, _, _, _, _, _, _, _, l_C_eq, c_C_eq, kp_C_eq⟩ (fun _ _ _ _ _ _ us hl => match us, hl with | [_, _], _ => rfl))
    (funAt_mk ⟨a_C_str, b_C_str⟩ ⟨_, _, _, _, _, _, _, _, _, l_C_str, c_C_str, kp_C_str⟩ (fun _ _ _ _ _ _ us hl => match us, hl with | [_], _ => rfl))
    (fun_mk l_law c_law kp_law)
theorem walk {l : PySem.W.OpenLaw} {q : Program} {loose : List Str} {XP : (Str → Option Value) → Heap → Prop} {YP : World → Heap → Prop} {d : DefRec} {K : Params → PySem.W.Frag} (hn : l.most = some 63) (hdf : d.params.defaults = [])
    (hY : ∀ (w : World) (h : Heap), YP w h → (K w.params).In h)
    (F : ∀ (w : World) (mg : Str → Option Value) (fa : Addr) (h : Heap), (K w.params).In h → h.Ns mainGlobals mg → mg d.name = some (.ref fa) →
      ∃ fd : FuncData, (∀ (s : Shared) (u : Value), BindsTo s fd ⟨[u], []⟩ [("_law_script", u)]) ∧ ∀ base : Heap, (K w.params).In base → base.Ns mainGlobals mg → FnOk l.prog w (K w.params) mg base CX0 10 fa fd ["_law_script"] (spLaw (K w.params))) :
    PySem.W.WalkO q loose XP YP l.row.toRowW d [] (fun f vs => PySem.call f vs) :=
  L2.walk_of (n := 63) (k := 10) (x := "_law_script") (CX := fun _ => CX0) (sp := fun w => spLaw (K w.params)) hn (by decide) hdf ⟨rfl, by decide, by decide⟩ hY F (fun _ _ a ns hl _ hS => ⟨a, ns, rfl, hS, hl, fun _ => rfl⟩) fun _ _ _ _ _ z => z
end Ec
section
set_option maxRecDepth 100000
open PySem PySem.W PyProof.Rows L2
set_option maxHeartbeats 0 in
open_top headB for PySem.Challenge.rw_evencoins_k23_whole_numbers_of_gates
end
set_option maxRecDepth 100000
open PySem PySem.W PyProof.Rows L2 in
set_option maxRecDepth 100000 in
set_option maxHeartbeats 0 in
theorem PySem.Challenge.cw_evencoins_k23_whole_numbers_of_gates_holds : PySem.Challenge.rw_evencoins_k23_whole_numbers_of_gates.Holds :=
  headB (by
  k_fill
  refine Ec.walk (l := PySem.Challenge.rw_evencoins_k23_whole_numbers_of_gates) rfl rfl (fun w h Y => PySem.W.kIn_of Y) ?F
  case F =>
    intro w mg fa h KX G hmg
    refine' Ec.all_mk KX G hmg ?aC ?pg ?ic ?po ?sa ?ca ?cn ?ct ?cm ?ty ?nn ?nt ?nq ?ne ?mk ?kc ?sa1 ?sb1 ?sc1 ?sd1 ?se1 ?sa2 ?sb2 ?sc2 ?sd2 ?se2 ?z_len ?z_tuple ?z_list ?z_int ?z_bool ?z_str ?z_isinstance ?z_all ?z_enumerate ?z_range ?z_max ?z_min ?z_abs ?z_zip ?z_sorted ?z_dict ?k_LEAST_FIELD ?k_MAX_FIELD ?k_MOST_PART ?k_MAX_GATES ?k_MAX_PRODUCTS ?k_MAX_INPUTS ?k_MAX_OUTPUTS ?k_MOST_NUMBER ?k_MOST_HOUSE ?k_INPUT ?k_CONSTANT ?k_SUM ?k_MULTIPLE ?k_PRODUCT ?a_is_integer ?l_is_integer ?c_is_integer ?kp_is_integer ?a_is_within ?l_is_within ?c_is_within ?kp_is_within ?a_require_field ?l_require_field ?c_require_field ?kp_require_field ?a_is_field ?l_is_field ?c_is_field ?kp_is_field ?a_is_number ?l_is_number ?c_is_number ?kp_is_number ?a_is_from ?l_is_from ?c_is_from ?kp_is_from ?a_is_gate ?l_is_gate ?c_is_gate ?kp_is_gate ?a_are_houses ?l_are_houses ?c_are_houses ?kp_are_houses ?a_is_output ?l_is_output ?c_is_output ?kp_is_output ?a_many_of ?l_many_of ?c_many_of ?kp_many_of ?a_are_gates ?l_are_gates ?c_are_gates ?kp_are_gates ?a_are_outputs ?l_are_outputs ?c_are_outputs ?kp_are_outputs ?a_level_list ?l_level_list ?c_level_list ?kp_level_list ?a_products_of ?l_products_of ?c_products_of ?kp_products_of ?a_meaning_in ?l_meaning_in ?c_meaning_in ?kp_meaning_in ?a_require_field2 ?l_require_field2 ?c_require_field2 ?kp_require_field2 ?a_are_numbers ?l_are_numbers ?c_are_numbers ?kp_are_numbers ?a_require_numbers ?l_require_numbers ?c_require_numbers ?kp_require_numbers ?a_law_dice ?l_law_dice ?c_law_dice ?kp_law_dice ?a_law_roll ?l_law_roll ?c_law_roll ?kp_law_roll ?a_law_pick ?l_law_pick ?c_law_pick ?kp_law_pick ?a_law_mixed ?l_law_mixed ?c_law_mixed ?kp_law_mixed ?a_law_dr_hall ?l_law_dr_hall ?c_law_dr_hall ?kp_law_dr_hall ?a_law_dr_houses ?l_law_dr_houses ?c_law_dr_houses ?kp_law_dr_houses ?a_law_dr_gate ?l_law_dr_gate ?c_law_dr_gate ?kp_law_dr_gate ?a_law_dr_gates ?l_law_dr_gates ?c_law_dr_gates ?kp_law_dr_gates ?a_law_dr_outputs ?l_law_dr_outputs ?c_law_dr_outputs ?kp_law_dr_outputs ?a_law_dr_numbers ?l_law_dr_numbers ?c_law_dr_numbers ?kp_law_dr_numbers ?a_law_dr_inputs ?l_law_dr_inputs ?c_law_dr_inputs ?kp_law_dr_inputs ?a_law_ci_levels ?l_law_ci_levels ?c_law_ci_levels ?kp_law_ci_levels ?a_law_ci_products ?l_law_ci_products ?c_law_ci_products ?kp_law_ci_products ?a_law_ci_inputs ?l_law_ci_inputs ?c_law_ci_inputs ?kp_law_ci_inputs ?a_law_ci_meaning ?l_law_ci_meaning ?c_law_ci_meaning ?kp_law_ci_meaning ?a_law_ci_told ?l_law_ci_told ?c_law_ci_told ?kp_law_ci_told ?a_law_right ?l_law_right ?c_law_right ?kp_law_right ?a_C_init ?b_C_init ?l_C_init ?c_C_init ?kp_C_init ?a_C_gates ?b_C_gates ?d_C_gates ?e_C_gates ?l_C_gates ?c_C_gates ?kp_C_gates ?a_C_outputs ?b_C_outputs ?d_C_outputs ?e_C_outputs ?l_C_outputs ?c_C_outputs ?kp_C_outputs ?a_C_inputs ?b_C_inputs ?d_C_inputs ?e_C_inputs ?l_C_inputs ?c_C_inputs ?kp_C_inputs ?a_C_houses ?b_C_houses ?d_C_houses ?e_C_houses ?l_C_houses ?c_C_houses ?kp_C_houses ?a_C_levels ?b_C_levels ?d_C_levels ?e_C_levels ?l_C_levels ?c_C_levels ?kp_C_levels ?a_C_inputs_of ?b_C_inputs_of ?l_C_inputs_of ?c_C_inputs_of ?kp_C_inputs_of ?a_C_meaning ?b_C_meaning ?l_C_meaning ?c_C_meaning ?kp_C_meaning ?a_C_told ?b_C_told ?l_C_told ?c_C_told ?kp_C_told ?a_C_eq ?b_C_eq ?l_C_eq ?c_C_eq ?kp_C_eq ?a_C_str ?b_C_str ?l_C_str ?c_C_str ?kp_C_str ?a_law ?l_law ?c_law ?kp_law
    (case aC => k_is)
    (case pg => k_is)
    (case ic => k_is)
    (case po => k_is)
    (case sa => k_is)
    (case ca => k_is)
    (case cn => k_is)
    (case ct => k_is)
    (case cm => k_is)
    (case ty => k_is)
    (case nn => k_is)
    (case nt => k_is)
    (case nq => k_is)
    (case ne => k_is)
    (case mk => k_is)
    (case kc => k_is)
    (case sa1 => k_is)
    (case sb1 => k_is)
    (case sc1 => k_is)
    (case sd1 => k_is)
    (case se1 => k_is)
    (case sa2 => k_is)
    (case sb2 => k_is)
    (case sc2 => k_is)
    (case sd2 => k_is)
    (case se2 => k_is)
    (case z_len => k_is)
    (case z_tuple => k_is)
    (case z_list => k_is)
    (case z_int => k_is)
    (case z_bool => k_is)
    (case z_str => k_is)
    (case z_isinstance => k_is)
    (case z_all => k_is)
    (case z_enumerate => k_is)
    (case z_range => k_is)
    (case z_max => k_is)
    (case z_min => k_is)
    (case z_abs => k_is)
    (case z_zip => k_is)
    (case z_sorted => k_is)
    (case z_dict => k_is)
    (case k_LEAST_FIELD => k_is)
    (case k_MAX_FIELD => k_is)
    (case k_MOST_PART => k_is)
    (case k_MAX_GATES => k_is)
    (case k_MAX_PRODUCTS => k_is)
    (case k_MAX_INPUTS => k_is)
    (case k_MAX_OUTPUTS => k_is)
    (case k_MOST_NUMBER => k_is)
    (case k_MOST_HOUSE => k_is)
    (case k_INPUT => k_is)
    (case k_CONSTANT => k_is)
    (case k_SUM => k_is)
    (case k_MULTIPLE => k_is)
    (case k_PRODUCT => k_is)
    (case a_is_integer => k_is)
    (case l_is_integer => k_is)
    (case c_is_integer => k_is)
    (case kp_is_integer => k_is)
    (case a_is_within => k_is)
    (case l_is_within => k_is)
    (case c_is_within => k_is)
    (case kp_is_within => k_is)
    (case a_require_field => k_is)
    (case l_require_field => k_is)
    (case c_require_field => k_is)
    (case kp_require_field => k_is)
    (case a_is_field => k_is)
    (case l_is_field => k_is)
    (case c_is_field => k_is)
    (case kp_is_field => k_is)
    (case a_is_number => k_is)
    (case l_is_number => k_is)
    (case c_is_number => k_is)
    (case kp_is_number => k_is)
    (case a_is_from => k_is)
    (case l_is_from => k_is)
    (case c_is_from => k_is)
    (case kp_is_from => k_is)
    (case a_is_gate => k_is)
    (case l_is_gate => k_is)
    (case c_is_gate => k_is)
    (case kp_is_gate => k_is)
    (case a_are_houses => k_is)
    (case l_are_houses => k_is)
    (case c_are_houses => k_is)
    (case kp_are_houses => k_is)
    (case a_is_output => k_is)
    (case l_is_output => k_is)
    (case c_is_output => k_is)
    (case kp_is_output => k_is)
    (case a_many_of => k_is)
    (case l_many_of => k_is)
    (case c_many_of => k_is)
    (case kp_many_of => k_is)
    (case a_are_gates => k_is)
    (case l_are_gates => k_is)
    (case c_are_gates => k_is)
    (case kp_are_gates => k_is)
    (case a_are_outputs => k_is)
    (case l_are_outputs => k_is)
    (case c_are_outputs => k_is)
    (case kp_are_outputs => k_is)
    (case a_level_list => k_is)
    (case l_level_list => k_is)
    (case c_level_list => k_is)
    (case kp_level_list => k_is)
    (case a_products_of => k_is)
    (case l_products_of => k_is)
    (case c_products_of => k_is)
    (case kp_products_of => k_is)
    (case a_meaning_in => k_is)
    (case l_meaning_in => k_is)
    (case c_meaning_in => k_is)
    (case kp_meaning_in => k_is)
    (case a_require_field2 => k_is)
    (case l_require_field2 => k_is)
    (case c_require_field2 => k_is)
    (case kp_require_field2 => k_is)
    (case a_are_numbers => k_is)
    (case l_are_numbers => k_is)
    (case c_are_numbers => k_is)
    (case kp_are_numbers => k_is)
    (case a_require_numbers => k_is)
    (case l_require_numbers => k_is)
    (case c_require_numbers => k_is)
    (case kp_require_numbers => k_is)
    (case a_law_dice => k_is)
    (case l_law_dice => k_is)
    (case c_law_dice => k_is)
    (case kp_law_dice => k_is)
    (case a_law_roll => k_is)
    (case l_law_roll => k_is)
    (case c_law_roll => k_is)
    (case kp_law_roll => k_is)
    (case a_law_pick => k_is)
    (case l_law_pick => k_is)
    (case c_law_pick => k_is)
    (case kp_law_pick => k_is)
    (case a_law_mixed => k_is)
    (case l_law_mixed => k_is)
    (case c_law_mixed => k_is)
    (case kp_law_mixed => k_is)
    (case a_law_dr_hall => k_is)
    (case l_law_dr_hall => k_is)
    (case c_law_dr_hall => k_is)
    (case kp_law_dr_hall => k_is)
    (case a_law_dr_houses => k_is)
    (case l_law_dr_houses => k_is)
    (case c_law_dr_houses => k_is)
    (case kp_law_dr_houses => k_is)
    (case a_law_dr_gate => k_is)
    (case l_law_dr_gate => k_is)
    (case c_law_dr_gate => k_is)
    (case kp_law_dr_gate => k_is)
    (case a_law_dr_gates => k_is)
    (case l_law_dr_gates => k_is)
    (case c_law_dr_gates => k_is)
    (case kp_law_dr_gates => k_is)
    (case a_law_dr_outputs => k_is)
    (case l_law_dr_outputs => k_is)
    (case c_law_dr_outputs => k_is)
    (case kp_law_dr_outputs => k_is)
    (case a_law_dr_numbers => k_is)
    (case l_law_dr_numbers => k_is)
    (case c_law_dr_numbers => k_is)
    (case kp_law_dr_numbers => k_is)
    (case a_law_dr_inputs => k_is)
    (case l_law_dr_inputs => k_is)
    (case c_law_dr_inputs => k_is)
    (case kp_law_dr_inputs => k_is)
    (case a_law_ci_levels => k_is)
    (case l_law_ci_levels => k_is)
    (case c_law_ci_levels => k_is)
    (case kp_law_ci_levels => k_is)
    (case a_law_ci_products => k_is)
    (case l_law_ci_products => k_is)
    (case c_law_ci_products => k_is)
    (case kp_law_ci_products => k_is)
    (case a_law_ci_inputs => k_is)
    (case l_law_ci_inputs => k_is)
    (case c_law_ci_inputs => k_is)
    (case kp_law_ci_inputs => k_is)
    (case a_law_ci_meaning => k_is)
    (case l_law_ci_meaning => k_is)
    (case c_law_ci_meaning => k_is)
    (case kp_law_ci_meaning => k_is)
    (case a_law_ci_told => k_is)
    (case l_law_ci_told => k_is)
    (case c_law_ci_told => k_is)
    (case kp_law_ci_told => k_is)
    (case a_law_right => k_is)
    (case l_law_right => k_is)
    (case c_law_right => k_is)
    (case kp_law_right => k_is)
    (case a_C_init => k_is)
    (case b_C_init => k_is)
    (case l_C_init => k_is)
    (case c_C_init => k_is)
    (case kp_C_init => k_is)
    (case a_C_gates => k_is)
    (case b_C_gates => k_is)
    (case d_C_gates => k_is)
    (case e_C_gates => k_is)
    (case l_C_gates => k_is)
    (case c_C_gates => k_is)
    (case kp_C_gates => k_is)
    (case a_C_outputs => k_is)
    (case b_C_outputs => k_is)
    (case d_C_outputs => k_is)
    (case e_C_outputs => k_is)
    (case l_C_outputs => k_is)
    (case c_C_outputs => k_is)
    (case kp_C_outputs => k_is)
    (case a_C_inputs => k_is)
    (case b_C_inputs => k_is)
    (case d_C_inputs => k_is)
    (case e_C_inputs => k_is)
    (case l_C_inputs => k_is)
    (case c_C_inputs => k_is)
    (case kp_C_inputs => k_is)
    (case a_C_houses => k_is)
    (case b_C_houses => k_is)
    (case d_C_houses => k_is)
    (case e_C_houses => k_is)
    (case l_C_houses => k_is)
    (case c_C_houses => k_is)
    (case kp_C_houses => k_is)
    (case a_C_levels => k_is)
    (case b_C_levels => k_is)
    (case d_C_levels => k_is)
    (case e_C_levels => k_is)
    (case l_C_levels => k_is)
    (case c_C_levels => k_is)
    (case kp_C_levels => k_is)
    (case a_C_inputs_of => k_is)
    (case b_C_inputs_of => k_is)
    (case l_C_inputs_of => k_is)
    (case c_C_inputs_of => k_is)
    (case kp_C_inputs_of => k_is)
    (case a_C_meaning => k_is)
    (case b_C_meaning => k_is)
    (case l_C_meaning => k_is)
    (case c_C_meaning => k_is)
    (case kp_C_meaning => k_is)
    (case a_C_told => k_is)
    (case b_C_told => k_is)
    (case l_C_told => k_is)
    (case c_C_told => k_is)
    (case kp_C_told => k_is)
    (case a_C_eq => k_is)
    (case b_C_eq => k_is)
    (case l_C_eq => k_is)
    (case c_C_eq => k_is)
    (case kp_C_eq => k_is)
    (case a_C_str => k_is)
    (case b_C_str => k_is)
    (case l_C_str => k_is)
    (case c_C_str => k_is)
    (case kp_C_str => k_is)
    (case a_law => k_is)
    (case l_law => k_is)
    (case c_law => k_is)
    (case kp_law => k_is))
