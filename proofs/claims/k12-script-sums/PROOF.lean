import PyProof.Rows.All
import Wide.All
import OpenK.AllK
import Wide.FinOn
import KE.GoesEnum
import HandS.ForMost
import HandS.IsInst
import HandS.Codes
import HandS.Wide
import HandS.Flow
import HandS.Style
import HandS.Conv
import HandS.TupAny
import HandS.DeepEq
import KE.KStateDown
import HandS.More
import HandS.WordsExc
import HandS.Defaults
import HandS.Head0
import HandS.Head1
import HandS.Head2
import HandS.HeadEnd
import HandS.HeadHook1
import HandS.HeadHook2
import PySem.Challenge.RW_slipstold_k12_script_sums
set_option Elab.async false
set_option linter.all false
set_option maxRecDepth 100000
set_option maxHeartbeats 4000000
/-! P0: walks over a list or a tuple, enumerate of either -/
namespace PySem
open Sem (wp)
theorem meets_enumerate_new1 {v : Value} {o : Obj} {H : Heap → Prop} (B : Begins v o H) :
    Meets (Builtin.«enumerate.__new__» ⟨[.type "enumerate", v], []⟩) (fun _ R s => H s.heap ∧
      R (.ok (.ret (.ref (s.heap.push o).objs.size))) { s with heap := (s.heap.push o).push { cls := .type "enumerate", data := .fields #[.none, .bool false, .ref s.heap.objs.size, rawInt 0, .none, .none] } }) :=
  .of_wp fun prog w A R s h => by
    obtain ⟨hp, g, d, tk, os⟩ := s; obtain ⟨h1, h⟩ := h
    have hsub := sub_enumerate
    have q1 : ∀ {A' : Around} {E : Value → Shared → Prop} {Q : Value → Shared → Prop}, Q (.ref hp.objs.size) ⟨hp.push o, g, d, tk, os⟩ → wpAny (model prog w) A' (pyIter v) Q E ⟨hp, g, d, tk, os⟩ :=
      fun q => B.iter prog w _ _ ⟨hp, g, d, tk, os⟩ _ h1 q
    wp_walk using q1
    refine wpAny_stack_any fun st => wpAny_pure ?_
    split
    · rename_i c _ _ _ _ _
      cases (c == Value.type "enumerate")
      · wp_walk using q1
        exact ⟨_, rfl, h⟩
      · wp_walk using q1
        exact ⟨_, rfl, h⟩
    · wp_walk using q1
      exact ⟨_, rfl, h⟩
section
variable {prog : Program} {w : World} {A : Around} {E : Value → Shared → Prop} {s : Shared}
theorem enum_begins1 {v : Value} {o : Obj} {H : Heap → Prop} {Q : Value → Shared → Prop} (B : Begins v o H) (h1 : H s.heap)
    (h : ∀ h', IsEnum h' (s.heap.objs.size + 1) s.heap.objs.size 0 .none → h'.get? s.heap.objs.size = some o → h'.objs.size = s.heap.objs.size + 2 →
      (∀ b o, s.heap.get? b = some o → h'.get? b = some o) → Q (.ref (s.heap.objs.size + 1)) { s with heap := h' }) :
    wpAny (model prog w) A (call (.type "enumerate") [v]) Q E s := by
  refine callType_new F.called_enumerate (by decide) (F.typeCall_enumerate_1 _) (F.newCall_enumerate_1 _) (fun obj => F.args_object_init_2 obj _) F.entry_enumerate_new
    (meets_enumerate_new1 B) ⟨h1, ?_⟩
  have hz : (s.heap.push o).objs.size = s.heap.objs.size + 1 := Heap.size_push ..
  show _ ∧ _
  rw [hz]
  have he : IsEnum ((s.heap.push o).push { cls := .type "enumerate", data := .fields #[.none, .bool false, .ref s.heap.objs.size, rawInt 0, .none, .none] }) (s.heap.objs.size + 1) s.heap.objs.size 0 .none := by
    have := Heap.get?_push_size (s.heap.push o) (o := { cls := .type "enumerate", data := .fields #[.none, .bool false, .ref s.heap.objs.size, rawInt 0, .none, .none] }) rfl
    rw [hz] at this; exact this
  refine ⟨⟨_, he, rfl⟩, h _ he (Heap.get?_push_of_some _ (Heap.get?_push_size _ B.free)) (by rw [Heap.size_push, hz]) fun b o x => Heap.get?_push_of_some _ (Heap.get?_push_of_some _ x)⟩
end
end PySem
namespace L2
open PySem PySem.Spec PyProof.Rows
/-- a list or a tuple of xs -/
def Sq (K : PySem.W.Frag) (H : Hp) (a : Addr) (xs : List V) : Prop := SqL K H a xs ∨ SqT K H a xs
theorem SqL.keep {K : PySem.W.Frag} {H H' : Hp} {a : Addr} {xs : List V} (e : ∀ o, H a = some o → H' a = some o) (h : SqL K H a xs) : SqL K H' a xs := by
  rcases h with (h | ⟨o, h⟩) | h
  · exact .inl (.inl (e _ h))
  · exact .inl (.inr ⟨o, e _ h⟩)
  · exact .inr h
theorem SqT.keep {K : PySem.W.Frag} {H H' : Hp} {a : Addr} {xs : List V} (e : ∀ o, H a = some o → H' a = some o) (h : SqT K H a xs) : SqT K H' a xs := by
  rcases h with (h | ⟨o, h⟩) | h
  · exact .inl (.inl (e _ h))
  · exact .inl (.inr ⟨o, e _ h⟩)
  · exact .inr h
theorem Sq.keep {K : PySem.W.Frag} {H H' : Hp} {a : Addr} {xs : List V} (e : ∀ o, H a = some o → H' a = some o) (h : Sq K H a xs) : Sq K H' a xs := h.imp (SqL.keep e) (SqT.keep e)
/-- for x in q, q a list or a tuple -/
def iSeq (K : PySem.W.Frag) (tl : TE) : TI := fun σ H R => tl σ H fun x H1 => ∃ a, x = .ref a ∧ (((∃ xs, SqL K H1 a xs) ∧ R (Itl K a) H1) ∨ ((∃ xs, SqT K H1 a xs) ∧ R (Itt K a) H1))
section
variable {X : Cx} {tg : Expr}
theorem pi_seq {l : Expr} {tl : TE} (hl : PE X l tl) : PI X tg l (iSeq X.K tl) := by
  refine ⟨fun pins s σ H R I h => ?_⟩
  refine thn (hl.run pins s σ H _ I h) fun v s1 ⟨x, H1, I1, r1, q1⟩ => ?_
  obtain ⟨a, e, q1⟩ := q1
  subst e
  cases r1
  rcases q1 with ⟨⟨xs, hq⟩, q⟩ | ⟨⟨xs, hq⟩, q⟩
  · obtain ⟨its, rv, p, hz⟩ := I1.list hq
    refine wpAny_pyIter_list p.isList ?_
    refine ⟨s1.heap.objs.size, [s1.heap.objs.size], _, _, H1, rfl, I1.kept (t' := s1.toks) fun b o e => Heap.get?_push_of_some _ e, turn_list a _, ⟨_, Heap.get?_push_size _ rfl, rfl, rfl⟩, fun b hb => ?_, q⟩
    have e : b = s1.heap.objs.size := by simpa using hb
    subst e
    exact I1.fpOk (Nat.le_refl _) (I1.hok.fresh (Nat.le_refl _))
  · obtain ⟨its, rv, p, hz⟩ := I1.tuple hq
    refine wpAny_pyIter_tuple (show s1.heap.IsTuple a its.toArray from p) ?_
    refine ⟨s1.heap.objs.size, [s1.heap.objs.size], _, _, H1, rfl, I1.kept (t' := s1.toks) fun b o e => Heap.get?_push_of_some _ e, turn_tuple a _, ⟨_, Heap.get?_push_size _ rfl, rfl, rfl⟩, fun b hb => ?_, q⟩
    have e : b = s1.heap.objs.size := by simpa using hb
    subst e
    exact I1.fpOk (Nat.le_refl _) (I1.hok.fresh (Nat.le_refl _))
end
/-- a for over a list or tuple that stands still -/
theorem for_seq {K : PySem.W.Frag} {a : Addr} {xs : List V} {g : TG} {tb : TS} {D : Ends} {σ : St} {H : Hp} (hq : Sq K H a xs) (Pv : Nat → St → Hp → Prop) (h0 : Pv 0 σ H) (hl : ∀ i σ H', i ≤ xs.length → Pv i σ H' → ∀ o, H a = some o → H' a = some o)
    (hs : ∀ i x σ H, xs[i]? = some x → Pv i σ H → g x σ H fun σ2 H2 => tb { D with nx := Pv (i + 1), ct := Pv (i + 1), bk := D.nx } σ2 H2) (hd : ∀ σ H, Pv xs.length σ H → D.nx σ H) :
    tFor (iSeq K (fun _ H Q => Q (.ref a) H)) g tb D σ H := by
  rcases hq with hq | hq
  · exact ⟨a, rfl, .inl ⟨⟨xs, hq⟩, for_list (K := K) (a := a) (xs := xs) Pv h0 (fun i σ H' hi p => hq.keep (hl i σ H' hi p)) hs hd⟩⟩
  · exact ⟨a, rfl, .inr ⟨⟨xs, hq⟩, for_tup (K := K) (a := a) (xs := xs) Pv h0 (fun i σ H' hi p => hq.keep (hl i σ H' hi p)) hs hd⟩⟩
/-- a comprehension over a list or tuple that stands still -/
theorem lc_seq {K : PySem.W.Frag} {a : Addr} {xs : List V} {g : TG} {tt : TT} {te : TE} {vs : List Nat} {σ : St} {H : Hp} {Q : VK} (hq : Sq K H a xs) (Pv : Addr → Nat → Hp → Prop) (h0 : ∀ D, H D = none → Pv D 0 (upd H D (.lst [])))
    (hl : ∀ D i H', H D = none → i ≤ xs.length → Pv D i H' → ∀ o, H a = some o → H' a = some o)
    (hs : ∀ D i x H', H D = none → xs[i]? = some x → Pv D i H' → g x (wipe σ vs) H' fun σ2 H2 => wipe σ2 vs = wipe σ vs ∧ tt σ2 H2 fun b H3 =>
      if b = true then te σ2 H3 fun y H4 => ∃ acc, H4 D = some (.lst acc) ∧ acc.length < sizeLine ∧ Pv D (i + 1) (upd H4 D (.lst (acc ++ [y]))) else Pv D (i + 1) H3) (hd : ∀ D H', H D = none → Pv D xs.length H' → Q (.ref D) H') :
    tLc (iSeq K (fun _ H Q => Q (.ref a) H)) g tt te vs σ H Q := by
  rcases hq with hq | hq
  · refine ⟨a, rfl, .inl ⟨⟨xs, hq⟩, fun D hD => ?_⟩⟩
    exact lc_list (K := K) (a := a) (xs := xs) (Pv D) (h0 D hD) (fun i H' hi p => hq.keep (hl D i H' hD hi p)) (fun i x H' hx p => hs D i x H' hD hx p) (fun H' p => hd D H' hD p)
  · refine ⟨a, rfl, .inr ⟨⟨xs, hq⟩, fun D hD => ?_⟩⟩
    exact lc_tup (K := K) (a := a) (xs := xs) (Pv D) (h0 D hD) (fun i H' hi p => hq.keep (hl D i H' hD hi p)) (fun i x H' hx p => hs D i x H' hD hx p) (fun H' p => hd D H' hD p)
/-! enumerate of a tuple -/
def Ittn (K : PySem.W.Frag) (a : Addr) : It :=
  ⟨fun i H => ∃ (xs : List V) (x : V), SqT K H a xs ∧ xs[i]? = some x, fun i H v H' => ∃ T x, v = .ref T ∧ H T = none ∧ H' = upd H T (.tup [.int (i : Nat), x]) ∧ ∀ xs, SqT K H a xs → xs[i]? = some x, fun i H => ∃ xs : List V, SqT K H a xs ∧ xs.length = i⟩
theorem turn_enumT {P : Program} {w : World} {K : PySem.W.Frag} {elts : List Expr} {kk : Nat} {tpos : Pos} (a e it : Addr) :
    Turn P w K (.Tuple elts kk tpos) (Ittn K a) [e, it] e (fun i h => (∃ old, IsEnum h e it ((i : Nat) : Int) old) ∧ h.IsTupleIter it a i ∧ e ≠ it ∧ a ≠ it ∧ a ≠ e) where
  mem := by simp
  obj := fun i h st b hb => by
    obtain ⟨⟨old, he⟩, ⟨o, ho, hc, hd⟩, _⟩ := st
    have e' : b = e ∨ b = it := by simpa using hb
    rcases e' with z | z
    · rw [z]; exact ⟨_, he, fun v q => nomatch q⟩
    · rw [z]; exact ⟨o, ho, fun v q => by rw [hd] at q; cases q⟩
  keep := fun i h h' st k => let ⟨⟨old, he⟩, hi, hne⟩ := st; ⟨⟨old, k e (by simp) _ he⟩, hi.at fun o q => k it (by simp) o q, hne⟩
  item := by
    intro X hP hw hK hc i pins s σ H E I hf st hg
    subst hP hw hK
    obtain ⟨⟨old, he⟩, hit, hne, hai, hae⟩ := st
    obtain ⟨xs, x, hq, hx⟩ := hg
    obtain ⟨its, rv, p, hz⟩ := I.tuple hq
    obtain ⟨u, hu, ru⟩ := rv.get hx
    have hel : e < s.heap.objs.size := Heap.lt_size he
    have hil : it < s.heap.objs.size := by obtain ⟨_, q, _⟩ := hit; exact Heap.lt_size q
    have p' : s.heap.IsTuple a its.toArray := p
    have D := Draws.tuple (prog := X.prog) (w := X.w) (A := X.A.in1) (I.ok.hd hc) it a hai its.toArray
    have hlt : i < its.toArray.size := by
      have := List.getElem?_eq_some_iff.mp hu
      obtain ⟨z, _⟩ := this
      simpa using z
    refine wpAny_pyNext_enum_itemD D he ⟨hit, p'⟩ hlt hne (by simp; exact ⟨hne, Ne.symm hae⟩) fun x' h' tk hP ho hst' hT hsz hk => ?_
    have ex : x' = u := by
      have q : its.toArray[i]? = some u := by simpa using hu
      exact Option.some.inj (hP.symm.trans q)
    subst ex
    refine ⟨_, rfl, wpAny_letOwnedTupleGo_enum (s := { s with heap := h', toks := tk + 1 }) ho fun h'' he' sb => ?_⟩
    have hT2 : h''.get? s.heap.objs.size = some { cls := .type "tuple", data := .seq #[.int i tk, x'] } := (sb.2 _ (Nat.ne_of_gt hel)).trans hT
    have new : ObjOk X.prog X.w (upd H s.heap.objs.size (.tup [.int (i : Nat), x])) h'' s.heap.objs.size (.tup [.int (i : Nat), x]) :=
      ⟨by show 2 ≤ sizeLine; decide, [.int i tk, x'], .cons ⟨_, rfl⟩ (.cons ru .nil), ⟨_, hT2, rfl, _, rfl⟩⟩
    have I1 : Inv X pins σ (upd H s.heap.objs.size (.tup [.int (i : Nat), x])) { s with heap := h'', toks := tk + 1 } :=
      I.turnedNew (ch := [e, it]) (fun b ob hb q => (sb.2 b (fun z => hb (by simp [z]))).trans (hk b ob (fun z => hb (by simp [z])) (fun z => hb (by simp [z])) q)) hf (Nat.le_refl _) new
    refine ⟨.ref s.heap.objs.size, _, I1, rfl, ⟨_, x, rfl, I.hok.fresh (Nat.le_refl _), rfl, fun ys hy => by rw [I.tuple_inj hy hq]; exact hx⟩, ⟨⟨x', ?_⟩, hst'.1.at fun o q => (sb.2 it (Ne.symm hne)).trans q, hne, hai, hae⟩, fun b hb => ?_⟩
    · have e1 : ((i + 1 : Nat) : Int) = (i : Int) + 1 := by omega
      rw [e1]; exact he'
    · have hb' : b < s.heap.objs.size := by
        have e' : b = e ∨ b = it := by simpa using hb
        rcases e' with z | z
        · rw [z]; exact hel
        · rw [z]; exact hil
      rw [upd_ne (Nat.ne_of_lt hb')]
      exact (hf b hb).1
  done := by
    intro X hP hw hK hc i pins s σ H E I hf st hg
    subst hP hw hK
    obtain ⟨⟨old, he⟩, hit, hne, hai, hae⟩ := st
    obtain ⟨xs, hq, hx⟩ := hg
    obtain ⟨its, rv, p, hz⟩ := I.tuple hq
    obtain ⟨f0, f1, f2, f3, f4, f5⟩ := hf it (by simp)
    have hl := rv.length
    have p' : s.heap.IsTuple a its.toArray := p
    have D := Draws.tuple (prog := X.prog) (w := X.w) (A := X.A.in1) (I.ok.hd hc) it a hai its.toArray
    have ei : i = its.toArray.size := by simp; omega
    subst ei
    exact wpAny_pyNext_enum_endD D he ⟨hit, p'⟩ fun h' eb => ⟨rfl, I.turned (t' := s.toks) (fun b o hb q => eb b o hb q) f0 f1 f3 f4 f5⟩
  self := fun A i s Q E st h => let ⟨⟨_, he⟩, _⟩ := st; wpAny_pyIter_enum he h
/-- enumerate(q), q a list or a tuple -/
def iEnumS (K : PySem.W.Frag) (ta : TA) : TI := fun σ H R => ta σ H fun vs H1 => ∃ a, vs = [.ref a] ∧ (((∃ xs, SqL K H1 a xs) ∧ R (Ite K a) H1) ∨ ((∃ xs, SqT K H1 a xs) ∧ R (Ittn K a) H1))
theorem pi_enumS {X : Cx} {e : Expr} {ta : TA} {p pos tpos : Pos} {elts : List Expr} {kk : Nat} (hg : Gl X "enumerate") (hm : X.mg "enumerate" = none) (ha : PA X [e] ta) (hs : starEach [e] X.env = [(false, eval e X.env)] := by rfl) :
    PI X (.Tuple elts kk tpos) (.Call (.Name "enumerate" p) [e] [] pos) (iEnumS X.K ta) := by
  refine ⟨fun pins s σ H R I h => ?_⟩
  refine Call_ (ld_blt I hg hm boot_enumerate (PyProof.Rows.callWith_type1 (thn (ha.run pos pins s σ H _ I h) fun us s1 ⟨vs, H1, I1, r1, q1⟩ => ?_) hs rfl))
  obtain ⟨a, ex, q1⟩ := q1
  subst ex
  cases r1 with
  | cons r rr =>
    cases rr
    cases r
    rcases q1 with ⟨⟨xs, hq⟩, q⟩ | ⟨⟨xs, hq⟩, q⟩
    · obtain ⟨its, rv, p', hz⟩ := I1.list hq
      refine call_enumerate_list p'.isList fun h' he hit hsz hk => wpAny_pyIter_enum he ?_
      have I2 : Inv X pins σ H1 { s1 with heap := h' } := I1.kept (t' := s1.toks) hk
      refine ⟨s1.heap.objs.size + 1, [s1.heap.objs.size + 1, s1.heap.objs.size], _, _, H1, rfl, I2, turn_enum a (s1.heap.objs.size + 1) s1.heap.objs.size, ⟨⟨.none, he⟩, hit, Nat.succ_ne_self _⟩, fun b hb => ?_, q⟩
      have e' : b = s1.heap.objs.size + 1 ∨ b = s1.heap.objs.size := by simpa using hb
      have hle : s1.heap.objs.size ≤ b := by
        rcases e' with z | z
        · rw [z]; exact Nat.le_add_right _ _
        · rw [z]; exact Nat.le_refl _
      exact I1.fpOk hle (I1.hok.fresh hle)
    · obtain ⟨its, rv, p', hz⟩ := I1.tuple hq
      have p2 : s1.heap.IsTuple a its.toArray := p'
      have hal : a < s1.heap.objs.size := by obtain ⟨_, z, _⟩ := p2; exact Heap.lt_size z
      refine enum_begins1 (begins_tuple a its.toArray) p2 fun h' he hit hsz hk => wpAny_pyIter_enum he ?_
      have I2 : Inv X pins σ H1 { s1 with heap := h' } := I1.kept (t' := s1.toks) hk
      refine ⟨s1.heap.objs.size + 1, [s1.heap.objs.size + 1, s1.heap.objs.size], _, _, H1, rfl, I2, turn_enumT a (s1.heap.objs.size + 1) s1.heap.objs.size, ⟨⟨.none, he⟩, ⟨_, hit, rfl, rfl⟩, Nat.succ_ne_self _, Nat.ne_of_lt hal, Nat.ne_of_lt (Nat.lt_succ_of_lt hal)⟩, fun b hb => ?_, q⟩
      have e' : b = s1.heap.objs.size + 1 ∨ b = s1.heap.objs.size := by simpa using hb
      have hle : s1.heap.objs.size ≤ b := by
        rcases e' with z | z
        · rw [z]; exact Nat.le_add_right _ _
        · rw [z]; exact Nat.le_refl _
      exact I1.fpOk hle (I1.hok.fresh hle)
theorem for_enumS {K : PySem.W.Frag} {a : Addr} {xs : List V} {g : TG} {tb : TS} {D : Ends} {σ : St} {H : Hp} (hq : Sq K H a xs) (Pv : Nat → St → Hp → Prop) (h0 : Pv 0 σ H) (hl : ∀ i σ H', i ≤ xs.length → Pv i σ H' → ∀ o, H a = some o → H' a = some o)
    (hs : ∀ i x σ H T, xs[i]? = some x → Pv i σ H → H T = none → g (.ref T) σ (upd H T (.tup [.int (i : Nat), x])) fun σ2 H2 => tb { D with nx := Pv (i + 1), ct := Pv (i + 1), bk := D.nx } σ2 H2) (hd : ∀ σ H, Pv xs.length σ H → D.nx σ H) :
    tFor (iEnumS K (fun _ H Q => Q [.ref a] H)) g tb D σ H := by
  rcases hq with hq | hq
  · refine ⟨a, rfl, .inl ⟨⟨xs, hq⟩, fun i m σ H' => m = xs.length - i ∧ i ≤ xs.length ∧ Pv i σ H', ⟨xs.length, by simp, Nat.zero_le _, h0⟩, ?_⟩⟩
    rintro i m σ H' ⟨rfl, hi, p⟩
    have q := hq.keep (hl i σ H' hi p)
    by_cases hlt : i < xs.length
    · refine .inr ⟨⟨xs, xs[i], q, by simp [hlt]⟩, Pv (i + 1), fun σ' H'' p' => ⟨xs.length - (i + 1), by omega, rfl, hlt, p'⟩, fun x H'' y => ?_⟩
      obtain ⟨T, x', rfl, nT, rfl, hx'⟩ := y
      exact hs i x' σ H' T (hx' xs q) p nT
    · have e : i = xs.length := by omega
      subst e
      exact .inl ⟨⟨xs, q, Nat.le_refl _⟩, hd σ H' p⟩
  · refine ⟨a, rfl, .inr ⟨⟨xs, hq⟩, fun i m σ H' => m = xs.length - i ∧ i ≤ xs.length ∧ Pv i σ H', ⟨xs.length, by simp, Nat.zero_le _, h0⟩, ?_⟩⟩
    rintro i m σ H' ⟨rfl, hi, p⟩
    have q := hq.keep (hl i σ H' hi p)
    by_cases hlt : i < xs.length
    · refine .inr ⟨⟨xs, xs[i], q, by simp [hlt]⟩, Pv (i + 1), fun σ' H'' p' => ⟨xs.length - (i + 1), by omega, rfl, hlt, p'⟩, fun x H'' y => ?_⟩
      obtain ⟨T, x', rfl, nT, rfl, hx'⟩ := y
      exact hs i x' σ H' T (hx' xs q) p nT
    · have e : i = xs.length := by omega
      subst e
      exact .inl ⟨⟨xs, q, rfl⟩, hd σ H' p⟩
end L2

/-! P1: readings entered one construct at a time -/
namespace L2
open PySem PySem.Spec PyProof.Rows
section
variable {K : PySem.W.Frag} {D : Ends} {σ : St} {H : Hp} {Q : VK} {QT : Bool → Hp → Prop} {QA : List V → Hp → Prop} {E : XK}
theorem i_seq {t u : TS} (h : t { D with nx := u D } σ H) : tSeq t u D σ H := h
theorem i_next (h : D.nx σ H) : tNext D σ H := h
theorem i_ret {te : TE} (h : te σ H D.rt) : tRet te D σ H := h
theorem i_retN (h : D.rt .non H) : tRetN D σ H := h
theorem i_drop {te : TE} (h : te σ H fun _ H1 => D.nx σ H1) : tDrop te D σ H := h
theorem i_ifs {c : TT} {t u : TS} (h : c σ H fun b H1 => if b = true then t D σ H1 else u D σ H1) : tIfS c t u D σ H := h
theorem i_asg {te : TE} {g : TG} (h : te σ H fun x H1 => g x σ H1 D.nx) : tAsg te g D σ H := h
theorem i_name {i : Nat} {v : V} {R : St → Hp → Prop} (h : R (σ.set i (some v)) H) : gName i v σ H R := h
theorem i_aug {i : Nat} {te : TE} {ti : TIp} {x : V} (hx : σ[i]? = some (some x)) (h : te σ H fun y H1 => ti x y H1 fun z H2 => D.nx (σ.set i (some z)) H2) : tAug i te ti D σ H := ⟨x, hx, h⟩
theorem i_ipI {f : Int → Int → Int} {i j : Int} {R : VK} (h : R (.int (f i j)) H) : ipI f (.int i) (.int j) H R := ⟨i, j, rfl, rfl, h⟩
theorem i_var {i : Nat} {v : V} (hv : σ[i]? = some (some v)) (h : Q v H) : tVar i σ H Q := ⟨v, hv, h⟩
theorem i_c {v : V} (h : Q v H) : tC v σ H Q := h
theorem i_op {r : R2} {ta tb : TE} (h : ta σ H fun x H1 => tb σ H1 fun y H2 => r x y H2 Q) : tOp r ta tb σ H Q := h
theorem i_un {r : V → Hp → VK → Prop} {ta : TE} (h : ta σ H fun x H1 => r x H1 Q) : tUn r ta σ H Q := h
theorem i_test {te : TE} (h : te σ H fun x H' => ∃ k, x = .bl k ∧ QT k H') : tTest te σ H QT := h
theorem i_tB {te : TE} (h : te σ H fun x H' => ∃ k, x = .bl k ∧ QT k H') : tB te σ H QT := h
theorem i_bl {b : Bool} {R : Bool → Prop} (h : R b) : ∃ k, V.bl b = .bl k ∧ R k := ⟨b, rfl, h⟩
theorem i_and {t u : TT} (h : t σ H fun c H1 => if c = true then u σ H1 QT else QT false H1) : tAnd t u σ H QT := h
theorem i_or {t u : TT} (h : t σ H fun c H1 => if c = true then QT true H1 else u σ H1 QT) : tOr t u σ H QT := h
theorem i_not {t : TT} (h : t σ H fun c H1 => QT (!c) H1) : tNot t σ H QT := h
theorem i_andV {ta tb : TE} (h : ta σ H fun x H1 => ∃ c, x = .bl c ∧ if c = true then tb σ H1 Q else Q (.bl false) H1) : tAndV ta tb σ H Q := h
theorem i_orV {ta tb : TE} (h : ta σ H fun x H1 => ∃ c, x = .bl c ∧ if c = true then Q (.bl true) H1 else tb σ H1 Q) : tOrV ta tb σ H Q := h
theorem i_notV {ta : TE} (h : ta σ H fun x H1 => ∃ c, x = .bl c ∧ Q (.bl (!c)) H1) : tNotV ta σ H Q := h
theorem i_if {t : TT} {ta tb : TE} (h : t σ H fun c H1 => if c = true then ta σ H1 Q else tb σ H1 Q) : tIf t ta tb σ H Q := h
theorem i_chain {r r' : R2} {ta tb tc : TE} (h : ta σ H fun x H1 => tb σ H1 fun y H2 => r x y H2 fun z H3 => ∃ k, z = .bl k ∧ (if k = true then tc σ H3 fun w' H4 => r' y w' H4 Q else Q (.bl false) H3)) : tChain r r' ta tb tc σ H Q := h
theorem i_cb {r : List V → Hp → VK → Prop} {t : TA} (h : t σ H fun vs H1 => r vs H1 Q) : tCB r t σ H Q := h
theorem i_cons {ta : TE} {tr : TA} (h : ta σ H fun x H1 => tr σ H1 fun xs H2 => QA (x :: xs) H2) : tCons ta tr σ H QA := h
theorem i_nil (h : QA [] H) : tNil σ H QA := h
theorem i_call {sp : Sp} {t : TA} (h : t σ H fun vs H1 => sp (vs ++ []) H1 Q E) : tCall sp [] E t σ H Q := h
theorem i_I0 {g : Int → Int → V} {i j : Int} (h : Q (g i j) H) : rI0 g (.int i) (.int j) H Q := ⟨i, j, rfl, rfl, h⟩
theorem i_I {C : Int → Int → Prop} {g : Int → Int → V} {i j : Int} (c : C i j) (h : Q (g i j) H) : rI C g (.int i) (.int j) H Q := ⟨i, j, rfl, rfl, c, h⟩
theorem i_U {g : Int → V} {i : Int} (h : Q (g i) H) : rU g (.int i) H Q := ⟨i, rfl, h⟩
theorem i_eq {x y : V} (s : scal x y = true) (h : Q (.bl (decide (x = y))) H) : rEq x y H Q := ⟨s, h⟩
theorem i_ne {x y : V} (s : scal x y = true) (h : Q (.bl (!decide (x = y))) H) : rNe x y H Q := ⟨s, h⟩
theorem i_tup {t : TA} (h : t σ H fun xs H1 => xs.length ≤ sizeLine ∧ ∀ p, H1 p = none → Q (.ref p) (upd H1 p (.tup xs))) : tTup t σ H Q := h
theorem i_lst {t : TA} (h : t σ H fun xs H1 => xs.length ≤ sizeLine ∧ ∀ p, H1 p = none → Q (.ref p) (upd H1 p (.lst xs))) : tLst t σ H Q := h
theorem i_new {xs : List V} {R : Addr → Prop} (hl : xs.length ≤ 1000) (h : ∀ p, H p = none → R p) : xs.length ≤ sizeLine ∧ ∀ p, H p = none → R p := ⟨Nat.le_trans hl (by decide), h⟩
theorem i_ixL {a : Addr} {xs : List V} {i : Int} {v : V} (hs : SqL K H a xs) (hi : atI xs i = some v) (h : Q v H) : rIxL K (.ref a) (.int i) H Q := ⟨a, xs, i, v, rfl, rfl, hs, hi, h⟩
theorem i_ixT {a : Addr} {xs : List V} {i : Int} {v : V} (hs : SqT K H a xs) (hi : atI xs i = some v) (h : Q v H) : rIxT K (.ref a) (.int i) H Q := ⟨a, xs, i, v, rfl, rfl, hs, hi, h⟩
theorem i_ixS {z : Str} {i : Int} {c : Nat} (hl : z.length ≤ sizeLine) (hi : atI z.cps.toList i = some c) (h : Q (.str ⟨#[c]⟩) H) : rIxS (.str z) (.int i) H Q := ⟨z, i, c, rfl, rfl, hl, hi, h⟩
theorem i_ixqL {a : Addr} {xs : List V} {i : Int} {v : V} (hs : SqL K H a xs) (hi : atI xs i = some v) (h : Q v H) : rIx K (.ref a) (.int i) H Q := .inl (i_ixL hs hi h)
theorem i_ixqT {a : Addr} {xs : List V} {i : Int} {v : V} (hs : SqT K H a xs) (hi : atI xs i = some v) (h : Q v H) : rIx K (.ref a) (.int i) H Q := .inr (.inl (i_ixT hs hi h))
theorem i_ixqS {z : Str} {i : Int} {c : Nat} (hl : z.length ≤ sizeLine) (hi : atI z.cps.toList i = some c) (h : Q (.str ⟨#[c]⟩) H) : rIx K (.str z) (.int i) H Q := .inr (.inr (i_ixS hl hi h))
theorem i_ixq {a : Addr} {xs : List V} {i : Int} {v : V} (hs : Sq K H a xs) (hi : atI xs i = some v) (h : Q v H) : rIx K (.ref a) (.int i) H Q := hs.elim (fun hs => i_ixqL hs hi h) (fun hs => i_ixqT hs hi h)
theorem i_in {x : V} {p : Addr} {xs : List V} (hs : Sq K H p xs) (hx : flatV x = true) (hf : xs.all flatV = true) (h : Q (.bl (inV x xs)) H) : rIn K false x (.ref p) H Q := ⟨p, xs, rfl, hs, hx, hf, h⟩
theorem i_notIn {x : V} {p : Addr} {xs : List V} (hs : Sq K H p xs) (hx : flatV x = true) (hf : xs.all flatV = true) (h : Q (.bl (!inV x xs)) H) : rIn K true x (.ref p) H Q := ⟨p, xs, rfl, hs, hx, hf, h⟩
/-! ifs -/
theorem i_T {A B : Prop} (h : A) : if true = true then A else B := iteT h
theorem i_F {A B : Prop} (h : B) : if false = true then A else B := iteF h
theorem i_NT {A B : Prop} (h : B) : if (!true) = true then A else B := iteF h
theorem i_NF {A B : Prop} (h : A) : if (!false) = true then A else B := iteT h
theorem i_dT {p A B : Prop} [Decidable p] (hp : p) (h : A) : if decide p = true then A else B := by rw [if_pos (decide_eq_true hp)]; exact h
theorem i_dF {p A B : Prop} [Decidable p] (hp : ¬ p) (h : B) : if decide p = true then A else B := by rw [if_neg (by simp [hp])]; exact h
theorem i_nT {p A B : Prop} [Decidable p] (hp : ¬ p) (h : A) : if (!decide p) = true then A else B := by rw [if_pos (by simp [hp])]; exact h
theorem i_nF {p A B : Prop} [Decidable p] (hp : p) (h : B) : if (!decide p) = true then A else B := by rw [if_neg (by simp [hp])]; exact h
theorem i_bT {b : Bool} {A B : Prop} (hb : b = true) (h : A) : if b = true then A else B := by rw [if_pos hb]; exact h
theorem i_bF {b : Bool} {A B : Prop} (hb : b = false) (h : B) : if b = true then A else B := by rw [hb]; exact iteF h
theorem i_b {b : Bool} {A B : Prop} (h1 : b = true → A) (h2 : b = false → B) : if b = true then A else B := by
  cases b with
  | true => exact iteT (h1 rfl)
  | false => exact iteF (h2 rfl)
theorem i_d {p A B : Prop} [Decidable p] (h1 : p → A) (h2 : ¬ p → B) : if decide p = true then A else B := by
  by_cases h : p
  · exact i_dT h (h1 h)
  · exact i_dF h (h2 h)
theorem i_n {p A B : Prop} [Decidable p] (h1 : ¬ p → A) (h2 : p → B) : if (!decide p) = true then A else B := by
  by_cases h : p
  · exact i_nF h (h2 h)
  · exact i_nT h (h1 h)
/-! isinstance -/
theorem i_isi {x : V} {nm T : String} {b : Bool} (hT : TyX K H x (.type nm)) (hk : kitB nm T = some b) (h : Q (.bl b) H) : rIsi K [x, .ty T] H Q := ⟨x, .ty T, .type nm, .type T, b, rfl, .ty T, hT, kit_ty hk, h⟩
theorem i_isi2 {x : V} {tp : Addr} {nm T1 T2 : String} {b1 b2 : Bool} (ht : H tp = some (.tup [.ty T1, .ty T2])) (hT : TyX K H x (.type nm)) (h1 : kitB nm T1 = some b1) (h2 : kitB nm T2 = some b2) (h : Q (.bl (b1 || b2)) H) : rIsiT K [x, .ref tp] H Q := by
  refine ⟨x, tp, _, .type nm, [.type T1, .type T2], b1 || b2, rfl, ht, .cons (.ty _) (.cons (.ty _) .nil), hT, ?_, h⟩
  refine kitAny_cons (kit_ty h1) (fun e => kitAny_cons (kit_ty h2) (fun e2 => ?_) (fun e2 => ?_)) (fun e => ?_)
  · rw [e, e2]; exact kitAny_nil
  · rw [e, e2]; rfl
  · rw [e]; rfl
theorem ty_int {i : Int} : TyX K H (.int i) (.type "int") := .base (.int i)
theorem ty_str {z : Str} : TyX K H (.str z) (.type "str") := .base (.str z)
theorem ty_bl {b : Bool} : TyX K H (.bl b) (.type "bool") := .base (.bl b)
theorem ty_non : TyX K H .non (.type "NoneType") := .base .non
theorem ty_lst {a : Addr} {xs : List V} (h : SqL K H a xs) : TyX K H (.ref a) (.type "list") := by
  rcases h with (h | ⟨o, h⟩) | ⟨o, its, n, h, c, _⟩
  · exact .base (.lst h)
  · exact .base (.frz h)
  · exact .kList h c
theorem ty_tup {a : Addr} {xs : List V} (h : SqT K H a xs) : TyX K H (.ref a) (.type "tuple") := by
  rcases h with (h | ⟨o, h⟩) | ⟨o, its, n, h, c, _⟩
  · exact .base (.tup h)
  · exact .fTuple h
  · exact .kTuple h c
theorem TyX.same {H' : Hp} {x : V} {t : Value} (e : Same H H') (h : TyX K H x t) : TyX K H' x t := by
  cases h with
  | base h =>
    cases h with
    | non => exact .base .non
    | bl b => exact .base (.bl b)
    | int i => exact .base (.int i)
    | str z => exact .base (.str z)
    | flt z => exact .base (.flt z)
    | lst h => exact .base (.lst (e _ _ h))
    | frz h => exact .base (.frz (e _ _ h))
    | tup h => exact .base (.tup (e _ _ h))
    | dK h => exact .base (.dK (e _ _ h))
    | dT h => exact .base (.dT (e _ _ h))
    | ins h c a b d f => exact .base (.ins (e _ _ h) c a b d f)
  | byt b => exact .byt b
  | set h => exact .set (e _ _ h)
  | kList h c => exact .kList h c
  | kTuple h c => exact .kTuple h c
  | kDict h c => exact .kDict h c
  | fTuple h => exact .fTuple (e _ _ h)
  | fDict h => exact .fDict (e _ _ h)
/-! heaps -/
theorem Same.new {H : Hp} {p : Addr} {o : HO} (h : H p = none) : Same H (upd H p o) := fun b x e => by
  rw [upd_ne (ne_of_none e h)]
  exact e
/-- what was not there may change -/
theorem Same.loc {H H' : Hp} {p : Addr} {o : HO} (s : Same H H') (h : H p = none) : Same H (upd H' p o) := fun b x e => by
  rw [upd_ne (ne_of_none e h)]
  exact s _ _ e
theorem Same.sqT {H' : Hp} {a : Addr} {xs : List V} (e : Same H H') (h : SqT K H a xs) : SqT K H' a xs := h.keep (e a)
theorem Same.sq {H' : Hp} {a : Addr} {xs : List V} (e : Same H H') (h : Sq K H a xs) : Sq K H' a xs := h.keep (e a)
theorem sqL {a : Addr} {xs : List V} (h : H a = some (.lst xs)) : SqL K H a xs := .inl (.inl h)
theorem sqT {a : Addr} {xs : List V} (h : H a = some (.tup xs)) : SqT K H a xs := .inl (.inl h)
theorem sz {n : Nat} (h : n ≤ 16000000) : n ≤ sizeLine := Nat.le_trans h (by decide)
theorem szl {n : Nat} (h : n ≤ 16000000) : n < sizeLine := Nat.lt_of_le_of_lt h (by decide)
/-! loops: what is walked is reckoned first, then a loop over the value -/
def ForV (K : PySem.W.Frag) (x : V) (g : TG) (tb : TS) : TS := tFor (iSeq K (fun _ H R => R x H)) g tb
def EnV (K : PySem.W.Frag) (xs : List V) (g : TG) (tb : TS) : TS := tFor (iEnumS K (fun _ H R => R xs H)) g tb
def RgV (xs : List V) (g : TG) (tb : TS) : TS := tFor (iRng1 (fun _ H R => R xs H)) g tb
def Rg2V (xs : List V) (g : TG) (tb : TS) : TS := tFor (iRng2 (fun _ H R => R xs H)) g tb
def StrV (x : V) (g : TG) (tb : TS) : TS := tFor (iStr (fun _ H R => R x H)) g tb
def LcV (K : PySem.W.Frag) (x : V) (g : TG) (tt : TT) (te : TE) (vs : List Nat) : TE := tLc (iSeq K (fun _ H R => R x H)) g tt te vs
def LrV (xs : List V) (g : TG) (tt : TT) (te : TE) (vs : List Nat) : TE := tLc (iRng1 (fun _ H R => R xs H)) g tt te vs
theorem i_for {tl : TE} {g : TG} {tb : TS} (h : tl σ H fun x H1 => ForV K x g tb D σ H1) : tFor (iSeq K tl) g tb D σ H := h
theorem i_forE {ta : TA} {g : TG} {tb : TS} (h : ta σ H fun xs H1 => EnV K xs g tb D σ H1) : tFor (iEnumS K ta) g tb D σ H := h
theorem i_forR {ta : TA} {g : TG} {tb : TS} (h : ta σ H fun xs H1 => RgV xs g tb D σ H1) : tFor (iRng1 ta) g tb D σ H := h
theorem i_forR2 {ta : TA} {g : TG} {tb : TS} (h : ta σ H fun xs H1 => Rg2V xs g tb D σ H1) : tFor (iRng2 ta) g tb D σ H := h
theorem i_forS {tl : TE} {g : TG} {tb : TS} (h : tl σ H fun x H1 => StrV x g tb D σ H1) : tFor (iStr tl) g tb D σ H := h
theorem i_lc {tl : TE} {g : TG} {tt : TT} {te : TE} {vs : List Nat} (h : tl σ H fun x H1 => LcV K x g tt te vs σ H1 Q) : tLc (iSeq K tl) g tt te vs σ H Q := h
theorem i_lcR {ta : TA} {g : TG} {tt : TT} {te : TE} {vs : List Nat} (h : ta σ H fun xs H1 => LrV xs g tt te vs σ H1 Q) : tLc (iRng1 ta) g tt te vs σ H Q := h
theorem f_seq {g : TG} {tb : TS} {a : Addr} {xs : List V} (hq : Sq K H a xs) (Pv : Nat → St → Hp → Prop) (h0 : Pv 0 σ H) (hl : ∀ i σ H', i ≤ xs.length → Pv i σ H' → ∀ o, H a = some o → H' a = some o)
    (hs : ∀ i x σ H, xs[i]? = some x → Pv i σ H → g x σ H fun σ2 H2 => tb { D with nx := Pv (i + 1), ct := Pv (i + 1), bk := D.nx } σ2 H2) (hd : ∀ σ H, Pv xs.length σ H → D.nx σ H) :
    ForV K (.ref a) g tb D σ H := for_seq hq Pv h0 hl hs hd
theorem f_enum {g : TG} {tb : TS} {a : Addr} {xs : List V} (hq : Sq K H a xs) (Pv : Nat → St → Hp → Prop) (h0 : Pv 0 σ H) (hl : ∀ i σ H', i ≤ xs.length → Pv i σ H' → ∀ o, H a = some o → H' a = some o)
    (hs : ∀ i x σ H T, xs[i]? = some x → Pv i σ H → H T = none → g (.ref T) σ (upd H T (.tup [.int (i : Nat), x])) fun σ2 H2 => tb { D with nx := Pv (i + 1), ct := Pv (i + 1), bk := D.nx } σ2 H2) (hd : ∀ σ H, Pv xs.length σ H → D.nx σ H) :
    EnV K [.ref a] g tb D σ H := for_enumS hq Pv h0 hl hs hd
theorem f_range {g : TG} {tb : TS} {j : Int} (hj : j ≤ 1000000000000) (h0' : -1000 ≤ j) (Pv : Nat → St → Hp → Prop) (h0 : Pv 0 σ H)
    (hs : ∀ i σ H, i < j.toNat → Pv i σ H → g (.int ((i : Nat) : Int)) σ H fun σ2 H2 => tb { D with nx := Pv (i + 1), ct := Pv (i + 1), bk := D.nx } σ2 H2) (hd : ∀ σ H, Pv j.toNat σ H → D.nx σ H) :
    RgV [.int j] g tb D σ H := by
  refine ⟨j, rfl, by omega, by omega, for_range (lo := 0) (n := j.toNat) Pv h0 (fun i σ H hi p => ?_) hd⟩
  rw [Int.zero_add]
  exact hs i σ H hi p
theorem f_range2 {g : TG} {tb : TS} {lo hi : Int} (hj : hi ≤ 1000000000000) (h0' : -1000 ≤ lo) (hj2 : lo ≤ 1000000000000) (h02 : -1000 ≤ hi) (Pv : Nat → St → Hp → Prop) (h0 : Pv 0 σ H)
    (hs : ∀ i σ H, i < (hi - lo).toNat → Pv i σ H → g (.int (lo + ((i : Nat) : Int))) σ H fun σ2 H2 => tb { D with nx := Pv (i + 1), ct := Pv (i + 1), bk := D.nx } σ2 H2) (hd : ∀ σ H, Pv (hi - lo).toNat σ H → D.nx σ H) :
    Rg2V [.int lo, .int hi] g tb D σ H := ⟨lo, hi, rfl, ⟨by omega, by omega, by omega, by omega⟩, for_range (lo := lo) (n := (hi - lo).toNat) Pv h0 hs hd⟩
theorem f_str {g : TG} {tb : TS} {z : Str} (Pv : Nat → St → Hp → Prop) (h0 : Pv 0 σ H)
    (hs : ∀ i c σ H, z.cps.toList[i]? = some c → Pv i σ H → g (.str ⟨#[c]⟩) σ H fun σ2 H2 => tb { D with nx := Pv (i + 1), ct := Pv (i + 1), bk := D.nx } σ2 H2) (hd : ∀ σ H, Pv z.cps.toList.length σ H → D.nx σ H) :
    StrV (.str z) g tb D σ H := by
  refine ⟨z, rfl, fun i m σ H' => m = z.cps.toList.length - i ∧ i ≤ z.cps.toList.length ∧ Pv i σ H', ⟨z.cps.toList.length, by simp, Nat.zero_le _, h0⟩, ?_⟩
  rintro i m σ H' ⟨rfl, hi, p⟩
  by_cases hlt : i < z.cps.toList.length
  · refine .inr ⟨(by simpa using hlt : i < z.cps.size), Pv (i + 1), fun σ' H'' p' => ⟨z.cps.toList.length - (i + 1), by omega, rfl, hlt, p'⟩, fun x H'' y => ?_⟩
    obtain ⟨rfl, c, hc, rfl⟩ := y
    exact hs i c σ H'' (by rw [Array.getElem?_toList]; exact hc) p
  · have e : i = z.cps.toList.length := by omega
    subst e
    exact .inl ⟨(by simp : z.cps.size ≤ z.cps.toList.length), hd σ H' p⟩
theorem l_seq {g : TG} {tt : TT} {te : TE} {vs : List Nat} {a : Addr} {xs : List V} (hq : Sq K H a xs) (Pv : Addr → Nat → Hp → Prop) (h0 : ∀ D, H D = none → Pv D 0 (upd H D (.lst [])))
    (hl : ∀ D i H', H D = none → i ≤ xs.length → Pv D i H' → ∀ o, H a = some o → H' a = some o)
    (hs : ∀ D i x H', H D = none → xs[i]? = some x → Pv D i H' → g x (wipe σ vs) H' fun σ2 H2 => wipe σ2 vs = wipe σ vs ∧ tt σ2 H2 fun b H3 =>
      if b = true then te σ2 H3 fun y H4 => ∃ acc, H4 D = some (.lst acc) ∧ acc.length < sizeLine ∧ Pv D (i + 1) (upd H4 D (.lst (acc ++ [y]))) else Pv D (i + 1) H3) (hd : ∀ D H', H D = none → Pv D xs.length H' → Q (.ref D) H') :
    LcV K (.ref a) g tt te vs σ H Q := lc_seq (vs := vs) hq Pv h0 hl hs hd
theorem l_range {g : TG} {tt : TT} {te : TE} {vs : List Nat} {j : Int} (hj : j ≤ 1000000000000) (h0' : -1000 ≤ j) (Pv : Addr → Nat → Hp → Prop) (h0 : ∀ D, H D = none → Pv D 0 (upd H D (.lst [])))
    (hs : ∀ D i H', H D = none → i < j.toNat → Pv D i H' → g (.int ((i : Nat) : Int)) (wipe σ vs) H' fun σ2 H2 => wipe σ2 vs = wipe σ vs ∧ tt σ2 H2 fun b H3 =>
      if b = true then te σ2 H3 fun y H4 => ∃ acc, H4 D = some (.lst acc) ∧ acc.length < sizeLine ∧ Pv D (i + 1) (upd H4 D (.lst (acc ++ [y]))) else Pv D (i + 1) H3) (hd : ∀ D H', H D = none → Pv D j.toNat H' → Q (.ref D) H') :
    LrV [.int j] g tt te vs σ H Q := by
  refine ⟨j, rfl, by omega, by omega, fun D hD => lc_range (lo := 0) (n := j.toNat) (Pv D) (h0 D hD) (fun i H' hi p => ?_) (fun H' p => hd D H' hD p)⟩
  rw [Int.zero_add]
  exact hs D i H' hD hi p
theorem i_yes (h : QT true H) : tYes σ H QT := h
theorem i_gTup2 {t : TGs} {T : Addr} {x y : V} {R : St → Hp → Prop} (h : SqT K H T [x, y]) (q : t [x, y] σ H R) : gTup K 2 t (.ref T) σ H R := ⟨T, [x, y], rfl, h, rfl, q⟩
theorem i_gCons {t : TG} {u : TGs} {v : V} {r : List V} {R : St → Hp → Prop} (q : t v σ H fun σ' H' => u r σ' H' R) : gCons t u (v :: r) σ H R := ⟨v, r, rfl, q⟩
theorem i_gNil {R : St → Hp → Prop} (q : R σ H) : gNil [] σ H R := ⟨rfl, q⟩
theorem map_get {α β : Type} {f : α → β} {l : List α} {i : Nat} {y : β} (h : (l.map f)[i]? = some y) : ∃ x, l[i]? = some x ∧ f x = y := by
  rw [List.getElem?_map] at h
  cases e : l[i]? with
  | none => rw [e] at h; cases h
  | some x => rw [e] at h; exact ⟨x, rfl, Option.some.inj h⟩
theorem cut_to (xs : List V) (k : Nat) : cutV xs none (some (k : Int)) = xs.take k := by
  unfold cutV
  rw [show HT.sIx xs.length 0 none = 0 from rfl, HT.sIx_nat, List.drop_zero, Nat.sub_zero]
  by_cases h : k ≤ xs.length
  · rw [Nat.min_eq_left h]
  · rw [Nat.min_eq_right (by omega), List.take_length, List.take_of_length_le (by omega)]
theorem cut_from (xs : List V) (k : Nat) : cutV xs (some (k : Int)) none = xs.drop k := by
  unfold cutV
  rw [show HT.sIx xs.length xs.length none = xs.length from rfl, HT.sIx_nat]
  by_cases h : k ≤ xs.length
  · rw [Nat.min_eq_left h]
    exact List.take_of_length_le (by rw [List.length_drop]; omega)
  · rw [Nat.min_eq_right (by omega), List.drop_eq_nil_of_le (Nat.le_refl _), List.drop_eq_nil_of_le (by omega), List.take_nil]
theorem wipe1 (σ : L2.St) (x : Str) (i : Nat) : wipe σ (List.map (fun p : Str × Nat => p.2) [(x, i)]) = σ.set i none := rfl
theorem wipe2 (σ : L2.St) (x y : Str) (i j : Nat) : wipe σ (List.map (fun p : Str × Nat => p.2) [(x, i), (y, j)]) = (σ.set j none).set i none := rfl
theorem i_eqL {l1 l2 : L2.St} {R : Prop} (e : l1 = l2) (h : R) : l1 = l2 ∧ R := ⟨e, h⟩
theorem st_eq {t : TS} {D : Ends} {σ σ' : L2.St} {H : Hp} (e : σ = σ') (h : t D σ' H) : t D σ H := by rw [e]; exact h
end
/-! named readings of the built-ins, so that what follows is found by its place -/
def rLenV (K : PySem.W.Frag) : List V → Hp → VK → Prop := fun xs H Q => ∃ x n, xs = [x] ∧ LenV K x H n ∧ Q (.int n) H
def rAbs : List V → Hp → VK → Prop := fun xs H Q => ∃ i, xs = [.int i] ∧ Q (.int (if i < 0 then -i else i)) H
def rMax2 : List V → Hp → VK → Prop := fun xs H Q => ∃ i j, xs = [.int i, .int j] ∧ Q (.int (if j > i then j else i)) H
def rMin2 : List V → Hp → VK → Prop := fun xs H Q => ∃ i j, xs = [.int i, .int j] ∧ Q (.int (if j < i then j else i)) H
def rInt1 : List V → Hp → VK → Prop := fun xs H Q => (∃ i, xs = [.int i] ∧ Q (.int i) H) ∨ ∃ k, xs = [.bl k] ∧ Q (.int (if k then 1 else 0)) H
def rListOf (K : PySem.W.Frag) : List V → Hp → VK → Prop := fun xs H Q => ∃ p ys, xs = [.ref p] ∧ (SqL K H p ys ∨ SqT K H p ys) ∧ ∀ l, H l = none → Q (.ref l) (upd H l (.lst ys))
def rTupOf (K : PySem.W.Frag) : List V → Hp → VK → Prop := fun xs H Q => ∃ p ys, xs = [.ref p] ∧ ((SqL K H p ys ∧ ∀ l, H l = none → Q (.ref l) (upd H l (.tup ys))) ∨ (SqT K H p ys ∧ Q (.ref p) H))
def rAddS : R2 := fun x y H Q => ∃ i j, x = .str i ∧ y = .str j ∧ i.length + j.length ≤ sizeLine ∧ Q (.str (i ++ j)) H
def rIsN : R2 := fun x y H Q => y = .non ∧ Q (.bl (decide (x = .non))) H
def rNotN : R2 := fun x y H Q => y = .non ∧ Q (.bl (!decide (x = .non))) H
def rInC : R2 := fun x y H Q => ∃ (c : Nat) (z : Str), x = .str ⟨#[c]⟩ ∧ y = .str z ∧ Q (.bl (decide (c ∈ z.cps.toList))) H
def rNotInC : R2 := fun x y H Q => ∃ (c : Nat) (z : Str), x = .str ⟨#[c]⟩ ∧ y = .str z ∧ Q (.bl (!decide (c ∈ z.cps.toList))) H
section
variable {X : Cx}
theorem c_len : CallR X (.builtin "len") (rLenV X.K) := call_len
theorem c_abs : CallR X (.builtin "abs") rAbs := call_abs
theorem c_max2 (hc : X.calm = true) : CallR X (.builtin "max") rMax2 := call_max2 hc
theorem c_min2 (hc : X.calm = true) : CallR X (.builtin "min") rMin2 := call_min2 hc
theorem c_int1 : CallR X (.type "int") rInt1 := call_int1
theorem c_list_of : CallR X (.type "list") (rListOf X.K) := call_list_of
theorem c_tuple_of : CallR X (.type "tuple") (rTupOf X.K) := call_tuple_of
theorem o_add_str : OpR X (binaryOp .Add) rAddS := op_add_str
theorem o_isN : OpR X (compareOp .Is) rIsN := op_isN
theorem o_notN : OpR X (compareOp .IsNot) rNotN := op_notN
theorem o_in_sign : OpR X (compareOp .In) rInC := op_in_sign
theorem o_notIn_sign : OpR X (compareOp .NotIn) rNotInC := op_notIn_sign
end
section
variable {K : PySem.W.Frag} {H : Hp} {Q : VK}
theorem i_len {a : Addr} {xs : List V} (h : Sq K H a xs) (q : Q (.int xs.length) H) : rLenV K [.ref a] H Q := ⟨.ref a, xs.length, rfl, h.elim (fun h => .inl ⟨xs, h, rfl⟩) (fun h => .inr ⟨xs, h, rfl⟩), q⟩
theorem i_lenS {z : Str} (h : z.length ≤ sizeLine) (q : Q (.int z.length) H) : rLenV K [.str z] H Q := ⟨.str z, z.length, rfl, ⟨h, rfl⟩, q⟩
theorem i_abs {i : Int} (q : Q (.int (if i < 0 then -i else i)) H) : rAbs [.int i] H Q := ⟨i, rfl, q⟩
theorem i_max2 {i j : Int} (q : Q (.int (if j > i then j else i)) H) : rMax2 [.int i, .int j] H Q := ⟨i, j, rfl, q⟩
theorem i_min2 {i j : Int} (q : Q (.int (if j < i then j else i)) H) : rMin2 [.int i, .int j] H Q := ⟨i, j, rfl, q⟩
theorem i_int1 {i : Int} (q : Q (.int i) H) : rInt1 [.int i] H Q := .inl ⟨i, rfl, q⟩
theorem i_intB {k : Bool} (q : Q (.int (if k then 1 else 0)) H) : rInt1 [.bl k] H Q := .inr ⟨k, rfl, q⟩
theorem i_listOf {p : Addr} {ys : List V} (h : Sq K H p ys) (q : ∀ l, H l = none → Q (.ref l) (upd H l (.lst ys))) : rListOf K [.ref p] H Q := ⟨p, ys, rfl, h, q⟩
theorem i_tupOfL {p : Addr} {ys : List V} (h : SqL K H p ys) (q : ∀ l, H l = none → Q (.ref l) (upd H l (.tup ys))) : rTupOf K [.ref p] H Q := ⟨p, ys, rfl, .inl ⟨h, q⟩⟩
theorem i_tupOfT {p : Addr} {ys : List V} (h : SqT K H p ys) (q : Q (.ref p) H) : rTupOf K [.ref p] H Q := ⟨p, ys, rfl, .inr ⟨h, q⟩⟩
theorem i_addS {x y : Str} (h : x.length + y.length ≤ sizeLine) (q : Q (.str (x ++ y)) H) : rAddS (.str x) (.str y) H Q := ⟨x, y, rfl, rfl, h, q⟩
theorem i_isN {x : V} (q : Q (.bl (decide (x = .non))) H) : rIsN x .non H Q := ⟨rfl, q⟩
theorem i_notN {x : V} (q : Q (.bl (!decide (x = .non))) H) : rNotN x .non H Q := ⟨rfl, q⟩
theorem i_inSign {c : Nat} {z : Str} (q : Q (.bl (decide (c ∈ z.cps.toList))) H) : rInC (.str ⟨#[c]⟩) (.str z) H Q := ⟨c, z, rfl, rfl, q⟩
theorem i_notInSign {c : Nat} {z : Str} (q : Q (.bl (!decide (c ∈ z.cps.toList))) H) : rNotInC (.str ⟨#[c]⟩) (.str z) H Q := ⟨c, z, rfl, rfl, q⟩
end
/-! the rules that read the written part, K said -/
section
variable {X : Cx}
theorem k_ix_seq (K : PySem.W.Frag) (h : X.K = K := by rfl) : IxR X (rIx K) := by subst h; exact ix_seq
theorem k_ix_list (K : PySem.W.Frag) (h : X.K = K := by rfl) : IxR X (rIxL K) := by subst h; exact ix_list
theorem k_ix_tup (K : PySem.W.Frag) (h : X.K = K := by rfl) : IxR X (rIxT K) := by subst h; exact ix_tup
theorem k_in_seq (K : PySem.W.Frag) (h : X.K = K := by rfl) : OpR X (compareOp .In) (rIn K false) := by subst h; exact op_in_seq
theorem k_notIn_seq (K : PySem.W.Frag) (h : X.K = K := by rfl) : OpR X (compareOp .NotIn) (rIn K true) := by subst h; exact op_notIn_seq
theorem k_len (K : PySem.W.Frag) (h : X.K = K := by rfl) : CallR X (.builtin "len") (rLenV K) := by subst h; exact call_len
theorem k_list_of (K : PySem.W.Frag) (h : X.K = K := by rfl) : CallR X (.type "list") (rListOf K) := by subst h; exact call_list_of
theorem k_tuple_of (K : PySem.W.Frag) (h : X.K = K := by rfl) : CallR X (.type "tuple") (rTupOf K) := by subst h; exact call_tuple_of
theorem k_isi (K : PySem.W.Frag) (h : X.K = K := by rfl) : CallR X (.builtin "isinstance") (rIsi K) := by subst h; exact call_isi
theorem k_isiT (K : PySem.W.Frag) (h : X.K = K := by rfl) : CallR X (.builtin "isinstance") (rIsiT K) := by subst h; exact call_isiT
theorem k_sl_list (K : PySem.W.Frag) (h : X.K = K := by rfl) : SlR X (rSlL K) := by subst h; exact sl_list
theorem k_sl_tupA (K : PySem.W.Frag) (h : X.K = K := by rfl) : SlR X (rSlA K) := by subst h; exact sl_tupA
theorem k_all (K : PySem.W.Frag) (hc : X.calm = true) (h : X.K = K := by rfl) : CallR X (.builtin "all") (rAll K) := by subst h; exact cr_all hc
theorem k_any (K : PySem.W.Frag) (hc : X.calm = true) (h : X.K = K := by rfl) : CallR X (.builtin "any") (rAny K) := by subst h; exact cr_any hc
theorem k_sum (K : PySem.W.Frag) (hc : X.calm = true) (h : X.K = K := by rfl) : CallR X (.builtin "sum") (rSum K) := by subst h; exact cr_sum hc
theorem k_sortedS (K : PySem.W.Frag) (h : X.K = K := by rfl) : CallR X (.builtin "sorted") (rSortedS K) := by subst h; exact cr_sortedS
theorem k_eqD (K : PySem.W.Frag) (hu : X.A.units + 64 < cLine) (h : X.K = K := by rfl) : OpR X (compareOp .Eq) (rEqD K) := by subst h; exact op_eqD hu
theorem k_neD (K : PySem.W.Frag) (hu : X.A.units + 64 < cLine) (h : X.K = K := by rfl) : OpR X (compareOp .NotEq) (rNeD K) := by subst h; exact op_neD hu
theorem k_eqV (K : PySem.W.Frag) (hu : X.A.units + 64 < cLine) (h : X.K = K := by rfl) : OpR X (compareOp .Eq) (rEqV K) := by subst h; exact op_eqV hu
theorem k_pseq (K : PySem.W.Frag) {tg l : Expr} {tl : TE} (hl : PE X l tl) (h : X.K = K := by rfl) : PI X tg l (iSeq K tl) := by subst h; exact pi_seq hl
theorem k_penum (K : PySem.W.Frag) {e : Expr} {ta : TA} {p pos tpos : Pos} {elts : List Expr} {kk : Nat} (hg : Gl X "enumerate") (hm : X.mg "enumerate" = none) (ha : PA X [e] ta) (h : X.K = K := by rfl) (hs : starEach [e] X.env = [(false, eval e X.env)] := by rfl) :
    PI X (.Tuple elts kk tpos) (.Call (.Name "enumerate" p) [e] [] pos) (iEnumS K ta) := by subst h; exact pi_enumS hg hm ha hs
theorem k_ptup (K : PySem.W.Frag) (n : Nat) {es : List Expr} {k : Nat} {t : TGs} {pos : Pos} (hc : X.calm = true) (hp : PGs X es t) (h : X.K = K := by rfl)
    (hn : (assignEach es X.env).length = n := by rfl) (hst : (assignEach es X.env).findIdx? (·.1) = none := by rfl) : PG X (.Tuple es k pos) (gTup K n t) := by subst h; exact pg_tup hc hp hn hst
theorem k_fld (K : PySem.W.Frag) {e : Expr} {f : Str} {ta : TE} {pos : Pos} (he : PE X e ta) (h : X.K = K := by rfl) (hb : attributeBase e f X.env (eval e X.env) = eval e X.env := by rfl) : PE X (.Attribute e f pos) (tFld K ta f) := by subst h; exact pe_fld he hb
theorem k_revL (K : PySem.W.Frag) {e : Expr} {te : TE} {k : Nat} {p1 p2 p3 pos : Pos} (he : PE X e te) (h : X.K = K := by rfl) : PE X (.Subscript e (.Slice none none (some (.UnaryOp .USub (.Constant (.int 1) k p1) p2)) p3) pos) (tRevL K te) := by subst h; exact pe_revL he
theorem k_bm0 (K : PySem.W.Frag) {T id : String} {name : Str} {r : V → List V → Hp → VK → Prop} {o : Expr} {to : TE} {apos cpos : Pos} (pa : PlainAttrs T) (slot : Slot T name id) (hty : typeOf (.builtin id) = pure (.type "method_descriptor")) (hm : MtR X id r) (ho : PE X o to) (h : X.K = K := by rfl)
    (hbase : attributeBase o name X.env (eval o X.env) = eval o X.env := by rfl) (hline : (apos.endLine == cpos.line) = true := by rfl) : PE X (.Call (.Attribute o name apos) [] [] cpos) (tBM0 K T r to) := by subst h; exact pe_bm0 pa slot hty hm ho hbase hline
theorem k_bm (K : PySem.W.Frag) {T id : String} {name : Str} {r : V → List V → Hp → VK → Prop} {o e : Expr} {es : List Expr} {to : TE} {t : TA} {apos cpos : Pos} (pa : PlainAttrs T) (slot : Slot T name id) (hty : typeOf (.builtin id) = pure (.type "method_descriptor")) (hm : MtR X id r) (ho : PE X o to) (ha : PA X (e :: es) t) (h : X.K = K := by rfl)
    (hbase : attributeBase o name X.env (eval o X.env) = eval o X.env := by rfl)
    (hfew : ((backTo cpos (starEach (e :: es) X.env)).all (fun x => !x.1) && (backToKw cpos (keywordEach [] X.env)).all (fun x => x.1.isSome)
      && decide ((e :: es).length + ([] : List Keyword).length + (if ([] : List Keyword).isEmpty then 0 else 1) < 30)) = true := by rfl)
    (hline : (apos.endLine == cpos.line) = true := by rfl) (hs : starEach (e :: es) X.env = (false, eval e X.env) :: starEach es X.env := by rfl) (hplain : (backTo cpos (starEach es X.env)).any (·.1) = false := by rfl) :
    PE X (.Call (.Attribute o name apos) (e :: es) [] cpos) (tBM K T r to t) := by subst h; exact pe_bm pa slot hty hm ho ha hbase hfew hline hs hplain
end
section
variable {K : PySem.W.Frag} {σ : St} {H : Hp} {Q : VK}
theorem i_eqVL {a b : Addr} {xs ys : List V} {n : Nat} (ha : SqL K H a xs) (hb : SqL K H b ys) (hn : n ≤ 60) (hp : Paired (EqV K H n) xs ys) (q : Q (.bl true) H) : rEqV K (.ref a) (.ref b) H Q := ⟨n, hn, .inl ⟨a, b, xs, ys, rfl, rfl, ha, hb, hp⟩, q⟩
theorem i_bm {T : String} {r : V → List V → Hp → VK → Prop} {to : TE} {t : TA} (h : to σ H fun x H1 => tyV K T x H1 ∧ t σ H1 fun xs H2 => r x xs H2 Q) : tBM K T r to t σ H Q := h
theorem i_bm0 {T : String} {r : V → List V → Hp → VK → Prop} {to : TE} (h : to σ H fun x H1 => tyV K T x H1 ∧ r x [] H1 Q) : tBM0 K T r to σ H Q := h
theorem i_tyL {l : Addr} {xs : List V} {R : Prop} (h : H l = some (.lst xs)) (r : R) : tyV K "list" (.ref l) H ∧ R := ⟨.inl ⟨rfl, xs, sqL h⟩, r⟩
theorem i_append {l : Addr} {xs : List V} {y : V} (h : H l = some (.lst xs)) (hs : xs.length < sizeLine) (q : Q .non (upd H l (.lst (xs ++ [y])))) : rAppend (.ref l) [y] H Q := ⟨l, xs, y, rfl, rfl, h, hs, q⟩
theorem i_clear {l : Addr} {xs : List V} (h : H l = some (.lst xs)) (q : Q .non (upd H l (.lst []))) : rClear (.ref l) [] H Q := ⟨l, xs, rfl, rfl, h, q⟩
theorem i_gSub {to ti : TE} {t : TSet} {v : V} {R : St → Hp → Prop} (h : to σ H fun o H1 => ti σ H1 fun i H2 => t o i v H2 fun H3 => R σ H3) : gSub to ti t v σ H R := h
theorem i_setL {l : Addr} {xs : List V} {k : Int} {j : Nat} {v : V} {R : Hp → Prop} (h : H l = some (.lst xs)) (hj : ixN xs.length k = some j) (q : R (upd H l (.lst (xs.set j v)))) : rSetL (.ref l) (.int k) v H R := ⟨l, xs, k, j, rfl, rfl, h, hj, q⟩
theorem i_sl {r : V → Option Int → Option Int → Hp → VK → Prop} {te : TE} {tl th : TO} (h : te σ H fun x H1 => tl σ H1 fun l H2 => th σ H2 fun u H3 => r x l u H3 Q) : tSl r te tl th σ H Q := h
theorem i_noPart {R : Option Int → Hp → Prop} (h : R none H) : tNoPart σ H R := h
theorem i_part {t : TE} {R : Option Int → Hp → Prop} (h : t σ H fun x H1 => ∃ i, x = .int i ∧ R (some i) H1) : tPart t σ H R := h
theorem i_int {i : Int} {R : Int → Prop} (h : R i) : ∃ k, V.int i = .int k ∧ R k := ⟨i, rfl, h⟩
theorem i_slL {a : Addr} {xs : List V} {lo hi : Option Int} (h : SqL K H a xs) (q : ∀ p, H p = none → Q (.ref p) (upd H p (.lst (cutV xs lo hi)))) : rSlL K (.ref a) lo hi H Q := ⟨a, xs, rfl, h, q⟩
theorem i_revL {te : TE} (h : te σ H fun x H1 => ∃ a xs, x = .ref a ∧ SqL K H1 a xs ∧ ∀ p, H1 p = none → Q (.ref p) (upd H1 p (.lst xs.reverse))) : tRevL K te σ H Q := h
end
/-! promises by the number of arguments -/
def sp1 (b : V → Hp → VK → XK → Prop) : Sp := fun vs H Q E => ∃ x, vs = [x] ∧ b x H Q E
def sp2 (b : V → V → Hp → VK → XK → Prop) : Sp := fun vs H Q E => ∃ x y, vs = [x, y] ∧ b x y H Q E
def sp3 (b : V → V → V → Hp → VK → XK → Prop) : Sp := fun vs H Q E => ∃ x y z, vs = [x, y, z] ∧ b x y z H Q E
def sp4 (b : V → V → V → V → Hp → VK → XK → Prop) : Sp := fun vs H Q E => ∃ x y z u, vs = [x, y, z, u] ∧ b x y z u H Q E
def sp5 (b : V → V → V → V → V → Hp → VK → XK → Prop) : Sp := fun vs H Q E => ∃ x y z u v, vs = [x, y, z, u, v] ∧ b x y z u v H Q E
section
variable {H : Hp} {Q : VK} {E : XK}
theorem i_sp1 {b : V → Hp → VK → XK → Prop} {x : V} (h : b x H Q E) : sp1 b ([x] ++ []) H Q E := ⟨x, rfl, h⟩
theorem i_sp2 {b : V → V → Hp → VK → XK → Prop} {x y : V} (h : b x y H Q E) : sp2 b ([x, y] ++ []) H Q E := ⟨x, y, rfl, h⟩
theorem i_sp3 {b : V → V → V → Hp → VK → XK → Prop} {x y z : V} (h : b x y z H Q E) : sp3 b ([x, y, z] ++ []) H Q E := ⟨x, y, z, rfl, h⟩
theorem i_sp4 {b : V → V → V → V → Hp → VK → XK → Prop} {x y z u : V} (h : b x y z u H Q E) : sp4 b ([x, y, z, u] ++ []) H Q E := ⟨x, y, z, u, rfl, h⟩
theorem i_sp5 {b : V → V → V → V → V → Hp → VK → XK → Prop} {x y z u v : V} (h : b x y z u v H Q E) : sp5 b ([x, y, z, u, v] ++ []) H Q E := ⟨x, y, z, u, v, rfl, h⟩
end
section
variable {P : Program} {w : World} {K : PySem.W.Frag} {mg : Str → Option Value} {base : Heap} {nm : Str} {st : Stmt} {f : Addr} {fd : FuncData} {N ps : List Str} {k : Nat}
theorem Cal.mono {j : Nat} {sp : Sp} (c : C8.Cal P w K mg base j nm sp []) (h : j ≤ k) : C8.Cal P w K mg base k nm sp [] := by
  obtain ⟨f, fd, ps, ds, F, m, kp, b, d⟩ := c.ex
  exact ⟨f, fd, ps, ds, F.mono h, m, kp, b, d⟩
theorem Cal.imp {sp sp' : Sp} (c : C8.Cal P w K mg base k nm sp []) (h : ∀ vs H Q E, sp' vs H Q E → sp vs H Q E) : C8.Cal P w K mg base k nm sp' [] := by
  obtain ⟨f, fd, ps, ds, F, m, kp, b, d⟩ := c.ex
  exact ⟨f, fd, ps, ds, F.imp h, m, kp, b, d⟩
/-- the law's own def -/
theorem fn1 {b : V → Hp → VK → XK → Prop} (F : L2.Fun K nm nm st f fd) (S : FnScope N ps (defScope st)) (hl : ps.length = 1)
    (hb : ∀ (cdv : Value) (A : Around) (outer : List Env) (s : Shared) (H : Hp) (Q : VK) (E : XK) (x : V), Room k (A.deeper (envOfC nm (defScope st) s.heap.objs.size f cdv)) → b x H Q E →
      ∃ t, PSs (cxOf CX0 P w K mg base N nm (defScope st) f cdv A outer s H E).nox (defBody st) t ∧ t { nx := fun _ H' => Q .non H', rt := Q } (start N [x]) H) : FnOk P w K mg base CX0 (k + 1) f fd ps (sp1 b) := by
  refine F.ok S ?_ ?_
  · rintro vs H Q E ⟨_, rfl, _⟩; exact hl.symm
  · rintro cdv A outer s H vs Q E hr ⟨x, rfl, h⟩; exact hb cdv A outer s H Q E x hr h
/-- a promise that nobody can ask -/
theorem cal_none {sp : Sp} (F : L2.Fun K nm nm st f fd) (g : mg nm = some (.ref f)) (bd : Binds K fd ps []) (hf : ∀ vs H Q E, ¬ sp vs H Q E) : C8.Cal P w K mg base k nm sp [] :=
  ⟨f, fd, ps, [], ⟨fun vs H Q E h => (hf vs H Q E h).elim, fun A outer s H args us vs Q E _ _ _ _ h => (hf vs H Q E h).elim⟩, g, F.kp, bd, .nil⟩
theorem fun_of {qual : Str} (F : FunD K nm qual (defArgs st) (defBody st) (defScope st) [] [] f fd) : L2.Fun K nm qual st f fd := by
  obtain ⟨oc, od, dV, kV, doc, pm, an, cdv, ct, osl, rfl, lk, hcd, hD, hK⟩ := F.ex
  rcases hD with ⟨_, rfl⟩ | ⟨e, _⟩
  · exact ⟨⟨oc, od, kV, doc, pm, an, cdv, ct, osl, rfl, lk, hcd⟩, F.kp⟩
  · exact absurd rfl e
theorem cal1 {b : V → Hp → VK → XK → Prop} (F : L2.Fun K nm nm st f fd) (g : mg nm = some (.ref f)) (S : FnScope N ps (defScope st)) (bd : Binds K fd ps []) (hl : ps.length = 1)
    (hb : ∀ (cdv : Value) (A : Around) (outer : List Env) (s : Shared) (H : Hp) (Q : VK) (E : XK) (x : V), Room k (A.deeper (envOfC nm (defScope st) s.heap.objs.size f cdv)) → b x H Q E →
      ∃ t, PSs (cxOf CX0 P w K mg base N nm (defScope st) f cdv A outer s H E).nox (defBody st) t ∧ t { nx := fun _ H' => Q .non H', rt := Q } (start N [x]) H) : C8.Cal P w K mg base (k + 1) nm (sp1 b) [] := by
  refine ⟨f, fd, ps, [], F.ok S ?_ ?_, g, F.kp, bd, .nil⟩
  · rintro vs H Q E ⟨_, rfl, _⟩; exact hl.symm
  · rintro cdv A outer s H vs Q E hr ⟨x, rfl, h⟩; exact hb cdv A outer s H Q E x hr h
theorem cal2 {b : V → V → Hp → VK → XK → Prop} (F : L2.Fun K nm nm st f fd) (g : mg nm = some (.ref f)) (S : FnScope N ps (defScope st)) (bd : Binds K fd ps []) (hl : ps.length = 2)
    (hb : ∀ (cdv : Value) (A : Around) (outer : List Env) (s : Shared) (H : Hp) (Q : VK) (E : XK) (x y : V), Room k (A.deeper (envOfC nm (defScope st) s.heap.objs.size f cdv)) → b x y H Q E →
      ∃ t, PSs (cxOf CX0 P w K mg base N nm (defScope st) f cdv A outer s H E).nox (defBody st) t ∧ t { nx := fun _ H' => Q .non H', rt := Q } (start N [x, y]) H) : C8.Cal P w K mg base (k + 1) nm (sp2 b) [] := by
  refine ⟨f, fd, ps, [], F.ok S ?_ ?_, g, F.kp, bd, .nil⟩
  · rintro vs H Q E ⟨_, _, rfl, _⟩; exact hl.symm
  · rintro cdv A outer s H vs Q E hr ⟨x, y, rfl, h⟩; exact hb cdv A outer s H Q E x y hr h
theorem cal3 {b : V → V → V → Hp → VK → XK → Prop} (F : L2.Fun K nm nm st f fd) (g : mg nm = some (.ref f)) (S : FnScope N ps (defScope st)) (bd : Binds K fd ps []) (hl : ps.length = 3)
    (hb : ∀ (cdv : Value) (A : Around) (outer : List Env) (s : Shared) (H : Hp) (Q : VK) (E : XK) (x y z : V), Room k (A.deeper (envOfC nm (defScope st) s.heap.objs.size f cdv)) → b x y z H Q E →
      ∃ t, PSs (cxOf CX0 P w K mg base N nm (defScope st) f cdv A outer s H E).nox (defBody st) t ∧ t { nx := fun _ H' => Q .non H', rt := Q } (start N [x, y, z]) H) : C8.Cal P w K mg base (k + 1) nm (sp3 b) [] := by
  refine ⟨f, fd, ps, [], F.ok S ?_ ?_, g, F.kp, bd, .nil⟩
  · rintro vs H Q E ⟨_, _, _, rfl, _⟩; exact hl.symm
  · rintro cdv A outer s H vs Q E hr ⟨x, y, z, rfl, h⟩; exact hb cdv A outer s H Q E x y z hr h
theorem cal4 {b : V → V → V → V → Hp → VK → XK → Prop} (F : L2.Fun K nm nm st f fd) (g : mg nm = some (.ref f)) (S : FnScope N ps (defScope st)) (bd : Binds K fd ps []) (hl : ps.length = 4)
    (hb : ∀ (cdv : Value) (A : Around) (outer : List Env) (s : Shared) (H : Hp) (Q : VK) (E : XK) (x y z u : V), Room k (A.deeper (envOfC nm (defScope st) s.heap.objs.size f cdv)) → b x y z u H Q E →
      ∃ t, PSs (cxOf CX0 P w K mg base N nm (defScope st) f cdv A outer s H E).nox (defBody st) t ∧ t { nx := fun _ H' => Q .non H', rt := Q } (start N [x, y, z, u]) H) : C8.Cal P w K mg base (k + 1) nm (sp4 b) [] := by
  refine ⟨f, fd, ps, [], F.ok S ?_ ?_, g, F.kp, bd, .nil⟩
  · rintro vs H Q E ⟨_, _, _, _, rfl, _⟩; exact hl.symm
  · rintro cdv A outer s H vs Q E hr ⟨x, y, z, u, rfl, h⟩; exact hb cdv A outer s H Q E x y z u hr h
end
end L2

set_option Elab.async false
set_option linter.all false
set_option maxRecDepth 100000
set_option maxHeartbeats 4000000
namespace My
open PySem PySem.Spec PyProof.Rows L2
local macro_rules | `(tactic| walk_at "go1") => `(tactic| first
  | with_reducible refine i_seq ?_
  | with_reducible refine i_asg ?_
  | ((with_reducible refine i_name ?_); dsimp only [List.set_cons_zero, List.set_cons_succ, wipe1, wipe2])
  | ((with_reducible refine i_var (v := ?v) ?hv ?_); (case hv => exact rfl))
  | with_reducible refine i_c ?_
  | with_reducible refine i_ifs ?_
  | with_reducible refine i_test ?_
  | with_reducible refine i_tB ?_
  | with_reducible refine i_op ?_
  | with_reducible refine i_un ?_
  | with_reducible refine i_cb ?_
  | with_reducible refine i_call ?_
  | with_reducible refine i_sp1 ?_
  | with_reducible refine i_sp2 ?_
  | with_reducible refine i_sp3 ?_
  | with_reducible refine i_sp4 ?_
  | with_reducible refine i_cons ?_
  | with_reducible refine i_nil ?_
  | with_reducible refine i_bl ?_
  | with_reducible refine i_I0 ?_
  | with_reducible refine i_ret ?_
  | with_reducible refine i_drop ?_
  | with_reducible refine i_next ?_
  | with_reducible refine i_retN ?_
  | with_reducible refine i_and ?_
  | with_reducible refine i_or ?_
  | with_reducible refine i_not ?_
  | with_reducible refine i_andV ?_
  | with_reducible refine i_orV ?_
  | with_reducible refine i_notV ?_
  | with_reducible refine i_if ?_
  | with_reducible refine i_chain ?_
  | with_reducible refine i_U ?_
  | with_reducible refine i_ipI ?_
  | ((with_reducible refine i_aug (x := ?v) ?hv ?_); (case hv => exact rfl))
  | with_reducible refine i_tup ?_
  | with_reducible refine i_lst ?_
  | with_reducible refine i_yes ?_
  | with_reducible refine i_gCons ?_
  | with_reducible refine i_for ?_
  | with_reducible refine i_forE ?_
  | with_reducible refine i_forR ?_
  | with_reducible refine i_forR2 ?_
  | with_reducible refine i_forS ?_
  | with_reducible refine i_lc ?_
  | with_reducible refine i_lcR ?_
  | with_reducible refine i_bm ?_
  | with_reducible refine i_bm0 ?_
  | with_reducible refine i_gSub ?_
  | with_reducible refine i_sl ?_
  | with_reducible refine i_noPart ?_
  | with_reducible refine i_part ?_
  | with_reducible refine i_int ?_
  | with_reducible refine i_revL ?_
  | with_reducible refine i_gNil ?_
  | ((with_reducible refine i_eq ?hs ?_); (case hs => exact rfl))
  | ((with_reducible refine i_ne ?hs ?_); (case hs => exact rfl))
  | with_reducible refine i_isN ?_
  | with_reducible refine i_notN ?_
  | ((with_reducible refine i_eqL ?e ?_); (case e => exact rfl))
  | with_reducible refine i_T ?_
  | with_reducible refine i_F ?_
  | with_reducible refine i_NT ?_
  | with_reducible refine i_NF ?_
  | with_reducible refine i_abs ?_
  | with_reducible refine i_max2 ?_
  | with_reducible refine i_min2 ?_
  | with_reducible refine i_int1 ?_
  | with_reducible refine i_intB ?_
  | with_reducible refine i_inSign ?_
  | with_reducible refine i_notInSign ?_
  | ((with_reducible refine i_I ?c ?_); (case c => first | exact ⟨by decide, by decide⟩ | (with_reducible exact Or.inr ⟨by decide, by decide⟩) | (with_reducible exact Or.inl ⟨by decide, by decide⟩) | exact Or.inr (by decide) | exact Or.inl (by decide) | decide | omega))
  | fail)
local macro_rules | `(tactic| walk_at "go") => `(tactic| repeat' walk_at "go1")
local macro_rules | `(tactic| walk_at "p") => `(tactic| first | assumption | omega | decide | (simp; done) | (simp; omega) | (intro h; cases h; done))
local macro_rules | `(tactic| walk_at "t") => `(tactic| first
  | ((with_reducible refine i_dT ?h ?_); (case h => walk_at "p"))
  | ((with_reducible refine i_nT ?h ?_); (case h => walk_at "p"))
  | ((with_reducible refine i_bT ?h ?_); (case h => walk_at "p")))
local macro_rules | `(tactic| walk_at "f") => `(tactic| first
  | ((with_reducible refine i_dF ?h ?_); (case h => walk_at "p"))
  | ((with_reducible refine i_nF ?h ?_); (case h => walk_at "p"))
  | ((with_reducible refine i_bF ?h ?_); (case h => walk_at "p")))


def topS (i : Nat) : Stmt := PySem.Challenge.pw_slipstold_k12_script_sums.main.body.getD i (.Pass ⟨0, 0, 0, 0⟩)
abbrev s_is_items : Stmt := topS 5
abbrev N_is_items : List Str := ["value"]
abbrev P_is_items : List Str := ["value"]
theorem sc_is_items : FnScope N_is_items P_is_items (defScope s_is_items) := ⟨rfl, rfl, rfl, by decide +kernel, rfl, by decide +kernel, by decide +kernel⟩
abbrev s_is_name : Stmt := topS 6
abbrev N_is_name : List Str := ["value", "letter"]
abbrev P_is_name : List Str := ["value"]
theorem sc_is_name : FnScope N_is_name P_is_name (defScope s_is_name) := ⟨rfl, rfl, rfl, by decide +kernel, rfl, by decide +kernel, by decide +kernel⟩
abbrev s_is_edit : Stmt := topS 9
abbrev N_is_edit : List Str := ["value"]
abbrev P_is_edit : List Str := ["value"]
theorem sc_is_edit : FnScope N_is_edit P_is_edit (defScope s_is_edit) := ⟨rfl, rfl, rfl, by decide +kernel, rfl, by decide +kernel, by decide +kernel⟩
abbrev s_bad_edit : Stmt := topS 10
abbrev N_bad_edit : List Str := ["script", "k", "edit"]
abbrev P_bad_edit : List Str := ["script"]
theorem sc_bad_edit : FnScope N_bad_edit P_bad_edit (defScope s_bad_edit) := ⟨rfl, rfl, rfl, by decide +kernel, rfl, by decide +kernel, by decide +kernel⟩
abbrev s_need_script : Stmt := topS 11
abbrev N_need_script : List Str := ["script", "place"]
abbrev P_need_script : List Str := ["script"]
theorem sc_need_script : FnScope N_need_script P_need_script (defScope s_need_script) := ⟨rfl, rfl, rfl, by decide +kernel, rfl, by decide +kernel, by decide +kernel⟩
abbrev s_source : Stmt := topS 12
abbrev N_source : List Str := ["script", "edit"]
abbrev P_source : List Str := ["script"]
theorem sc_source : FnScope N_source P_source (defScope s_source) := ⟨rfl, rfl, rfl, by decide +kernel, rfl, by decide +kernel, by decide +kernel⟩
abbrev s_target : Stmt := topS 13
abbrev N_target : List Str := ["script", "edit"]
abbrev P_target : List Str := ["script"]
theorem sc_target : FnScope N_target P_target (defScope s_target) := ⟨rfl, rfl, rfl, by decide +kernel, rfl, by decide +kernel, by decide +kernel⟩
abbrev s_cost : Stmt := topS 14
abbrev N_cost : List Str := ["script", "edit"]
abbrev P_cost : List Str := ["script"]
theorem sc_cost : FnScope N_cost P_cost (defScope s_cost) := ⟨rfl, rfl, rfl, by decide +kernel, rfl, by decide +kernel, by decide +kernel⟩
abbrev s__law_purse : Stmt := topS 16
abbrev N__law_purse : List Str := ["_law_script_here", "_law_cells", "_law_great", "_law_k", "_law_cell"]
abbrev P__law_purse : List Str := ["_law_script_here"]
theorem sc__law_purse : FnScope N__law_purse P__law_purse (defScope s__law_purse) := ⟨rfl, rfl, rfl, by decide +kernel, rfl, by decide +kernel, by decide +kernel⟩
abbrev s__law_draw : Stmt := topS 17
abbrev N__law_draw : List Str := ["_law_purse_here", "_law_many", "_law_at", "_law_rest", "_law_number"]
abbrev P__law_draw : List Str := ["_law_purse_here", "_law_many"]
theorem sc__law_draw : FnScope N__law_draw P__law_draw (defScope s__law_draw) := ⟨rfl, rfl, rfl, by decide +kernel, rfl, by decide +kernel, by decide +kernel⟩
abbrev s__law_name : Stmt := topS 18
abbrev N__law_name : List Str := ["_law_purse_here", "_law_word", "_law_k"]
abbrev P__law_name : List Str := ["_law_purse_here"]
theorem sc__law_name : FnScope N__law_name P__law_name (defScope s__law_name) := ⟨rfl, rfl, rfl, by decide +kernel, rfl, by decide +kernel, by decide +kernel⟩
abbrev s__law_names : Stmt := topS 19
abbrev N__law_names : List Str := ["_law_purse_here", "_law_many", "_law_plain", "_law_spelled", "_law_names_here", "_law_k", "_law_word", "_law_each"]
abbrev P__law_names : List Str := ["_law_purse_here", "_law_many"]
theorem sc__law_names : FnScope N__law_names P__law_names (defScope s__law_names) := ⟨rfl, rfl, rfl, by decide +kernel, rfl, by decide +kernel, by decide +kernel⟩
abbrev s__law_script : Stmt := topS 20
abbrev N__law_script : List Str := ["_law_purse_here", "_law_names_here", "_law_most", "_law_script_here", "_law_k", "_law_kind", "_law_t", "_law_others", "_law_name_here"]
abbrev P__law_script : List Str := ["_law_purse_here", "_law_names_here", "_law_most"]
theorem sc__law_script : FnScope N__law_script P__law_script (defScope s__law_script) := ⟨rfl, rfl, rfl, by decide +kernel, rfl, by decide +kernel, by decide +kernel⟩
abbrev s__law_same : Stmt := topS 21
abbrev N__law_same : List Str := ["_law_actual", "_law_due", "_law_k", "_law_key"]
abbrev P__law_same : List Str := ["_law_actual", "_law_due"]
theorem sc__law_same : FnScope N__law_same P__law_same (defScope s__law_same) := ⟨rfl, rfl, rfl, by decide +kernel, rfl, by decide +kernel, by decide +kernel⟩
abbrev s_law : Stmt := topS 22
abbrev N_law : List Str := ["_law_script_here", "_law_purse_here", "_law_names_here", "_law_edits", "_law_read", "_law_written", "_law_changes", "_law_edit", "_law_due", "_law_handed", "_law_heard", "_law_again"]
abbrev P_law : List Str := ["_law_script_here"]
theorem sc_law : FnScope N_law P_law (defScope s_law) := ⟨rfl, rfl, rfl, by decide +kernel, rfl, by decide +kernel, by decide +kernel⟩
structure Bs (mg : Str → Option Value) : Prop where
  b_abs : mg "abs" = none
  b_all : mg "all" = none
  b_bool : mg "bool" = none
  b_dict : mg "dict" = none
  b_enumerate : mg "enumerate" = none
  b_int : mg "int" = none
  b_isinstance : mg "isinstance" = none
  b_len : mg "len" = none
  b_list : mg "list" = none
  b_range : mg "range" = none
  b_str : mg "str" = none
  b_tuple : mg "tuple" = none
  x_LETTERS : ∃ u, mg "LETTERS" = some u ∧ RelV (.str "abcdefghijklmnopqrstuvwxyz") u
  x_MOST_EDITS : ∃ u, mg "MOST_EDITS" = some u ∧ RelV (.int 5000) u
section
variable {P : Program} {w : World} {K : PySem.W.Frag} {mg : Str → Option Value} {base : Heap} {n : Nat}
/-! ### checks.py -/
/-- x is a list or tuple, or not -/
def ItV (K : PySem.W.Frag) (H : Hp) (x : V) (b : Bool) : Prop := ∃ (nm : String) (b1 b2 : Bool), TyX K H x (.type nm) ∧ kitB nm "list" = some b1 ∧ kitB nm "tuple" = some b2 ∧ b = (b1 || b2)
theorem ItV.sq {H : Hp} {a : Addr} {xs : List V} (h : Sq K H a xs) : ItV K H (.ref a) true := by
  rcases h with h | h
  · exact ⟨"list", true, false, ty_lst h, by decide +kernel, by decide +kernel, rfl⟩
  · exact ⟨"tuple", false, true, ty_tup h, by decide +kernel, by decide +kernel, rfl⟩
theorem ItV.same {H H' : Hp} {x : V} {b : Bool} (e : Same H H') (h : ItV K H x b) : ItV K H' x b := by
  obtain ⟨nm, b1, b2, hT, h1, h2, hb⟩ := h
  exact ⟨nm, b1, b2, hT.same e, h1, h2, hb⟩
abbrev spItems (K : PySem.W.Frag) : Sp := sp1 fun x H Q _ => ∃ b : Bool, ItV K H x b ∧ ∀ H', Same H H' → Q (.bl b) H'
theorem ok_is_items {f : Addr} {fd : FuncData} {k : Nat} (F : L2.Fun K "is_items" "is_items" s_is_items f fd) (g : mg "is_items" = some (.ref f)) (B : Bs mg)  : C8.Cal P w K mg base (k + 1) "is_items" (spItems K) [] := by
  refine cal1 F g sc_is_items (F.binds (ps := P_is_items) fun _ _ _ _ _ _ us hl => match us, hl with | [_], _ => rfl) rfl fun cdv A outer s H Q E x hr h => ?_
  obtain ⟨b, ⟨nm, b1, b2, hT, h1, h2, rfl⟩, q⟩ := h
  refine ⟨_, (pss_one (ps_ret (pe_callB (k_isiT K) rfl B.b_isinstance (by decide +kernel) (pa_cons (pv 0) (pa_cons (pe_tup (pa_cons (pe_bltn (v := .ty "list") rfl B.b_list (by decide +kernel) rfl) (pa_cons (pe_bltn (v := .ty "tuple") rfl B.b_tuple (by decide +kernel) rfl) pa_nil))) pa_nil))))), st_eq (σ' := [some _]) rfl ?_⟩
  walk_at "go"
  refine i_new (by simp) fun p np => ?_
  exact i_isi2 upd_same (TyX.same (Same.new np) hT) h1 h2 (q _ (Same.new np))
def letters : List Nat := (Str.ofString "abcdefghijklmnopqrstuvwxyz").cps.toList
def isName (z : Str) : Bool := decide (1 ≤ z.length) && decide (z.length ≤ 8) && z.cps.toList.all fun c => decide (c ∈ letters)
/-- x is a name or not -/
def NmV (K : PySem.W.Frag) (H : Hp) (x : V) (b : Bool) : Prop := (∃ z, x = .str z ∧ z.length ≤ sizeLine ∧ b = isName z) ∨ (b = false ∧ ∃ nm, TyX K H x (.type nm) ∧ kitB nm "str" = some false)
abbrev spName (K : PySem.W.Frag) : Sp := sp1 fun x H Q _ => ∃ b : Bool, NmV K H x b ∧ Q (.bl b) H
theorem ok_is_name {f : Addr} {fd : FuncData} {k : Nat} (F : L2.Fun K "is_name" "is_name" s_is_name f fd) (g : mg "is_name" = some (.ref f)) (B : Bs mg)  : C8.Cal P w K mg base (k + 1) "is_name" (spName K) [] := by
  refine cal1 F g sc_is_name (F.binds (ps := P_is_name) fun _ _ _ _ _ _ us hl => match us, hl with | [_], _ => rfl) rfl fun cdv A outer s H Q E x hr h => ?_
  obtain ⟨b, hN, q⟩ := h
  refine ⟨_, (pss_cons (ps_if (PW.pt (pw_or (pt_not (pt_val (pe_callB (k_isi K) rfl B.b_isinstance (by decide +kernel) (pa_cons (pv 0) (pa_cons (pe_bltn (v := .ty "str") rfl B.b_str (by decide +kernel) rfl) pa_nil))))) (pw_or1 (pt_not (pt_chain op_le op_le pe_int (pe_callB (k_len K) rfl B.b_len (by decide +kernel) (pa_cons (pv 0) pa_nil)) pe_int))))) (pss_one (ps_ret pe_bl)) pss_nil)
      (pss_cons (ps_for PassesOwn.never rfl (pi_str (pv 0)) (pg_name (i := 1) sc_is_name.nd rfl (.inl rfl))
      (pss_one (ps_if (pt_cmpR o_notIn_sign (pv 1) (C8.pe_gc rfl B.x_LETTERS) (by rfl)) (pss_one (ps_ret pe_bl)) pss_nil)))
      (pss_one (ps_ret pe_bl)))), st_eq (σ' := [some _, none]) rfl ?_⟩
  rcases hN with ⟨z, rfl, hz, rfl⟩ | ⟨rfl, nm, hT, hk⟩
  · walk_at "go"
    refine i_isi ty_str (b := true) (by decide +kernel) ?_
    walk_at "go"
    refine i_lenS hz ?_
    walk_at "go"
    have hall : isName z = (decide (1 ≤ z.length) && decide (z.length ≤ 8) && z.cps.toList.all fun c => decide (c ∈ letters)) := rfl
    refine i_d (fun h1 => ?_) (fun h1 => ?_)
    · walk_at "go"
      refine i_n (fun h2 => ?_) (fun h2 => ?_)
      · walk_at "go"
        rw [hall, decide_eq_false (by omega : ¬ z.length ≤ 8)] at q
        simpa using q
      · walk_at "go"
        refine f_str (fun i σ H' => ∃ y, σ = [some (.str z), y] ∧ H' = H ∧ ∀ c ∈ z.cps.toList.take i, c ∈ letters) ⟨none, rfl, rfl, by simp⟩ ?_ ?_
        · rintro i c σ H' hc ⟨y, rfl, rfl, ha⟩
          walk_at "go"
          refine i_n (fun h3 => ?_) (fun h3 => ?_)
          · walk_at "go"
            have : isName z = false := by
              rw [hall, Bool.and_eq_false_iff]
              refine .inr ?_
              rw [List.all_eq_false]
              exact ⟨c, List.mem_of_getElem? hc, fun e => h3 (of_decide_eq_true e)⟩
            rw [this] at q
            exact q
          · walk_at "go"
            refine ⟨_, rfl, rfl, fun c' hc' => ?_⟩
            rw [List.take_add_one, hc] at hc'
            rcases List.mem_append.mp hc' with h | h
            · exact ha _ h
            · simp at h
              subst h
              exact h3
        · rintro σ H' ⟨y, rfl, rfl, ha⟩
          walk_at "go"
          have : isName z = true := by
            rw [hall, decide_eq_true (by omega : 1 ≤ z.length), decide_eq_true (by omega : z.length ≤ 8)]
            rw [List.take_length] at ha
            simp only [Bool.true_and]
            exact List.all_eq_true.mpr fun c hc => decide_eq_true (ha c hc)
          rw [this] at q
          exact q
    · walk_at "go"
      rw [hall, decide_eq_false (by omega : ¬ 1 ≤ z.length)] at q
      simpa using q
  · walk_at "go"
    refine i_isi hT hk ?_
    walk_at "go"
    exact q

/-! ### edits.py: what an edit is -/
/-- a value by what is_name and == ask of it: a text, or no text -/
def StV (K : PySem.W.Frag) (H : Hp) (x : V) (o : Option Str) : Prop := (∃ z, x = .str z ∧ z.length ≤ sizeLine ∧ o = some z) ∨ (o = none ∧ ∃ nm, TyX K H x (.type nm) ∧ kitB nm "str" = some false)
theorem str_beq' (a b : Str) : (a == b) = decide (b = a) := by
  by_cases h : b = a
  · subst h; simp
  · rw [decide_eq_false h]; exact beq_eq_false_iff_ne.mpr (Ne.symm h)
def nmO : Option Str → Bool
  | some z => isName z
  | none => false
theorem StV.nm {H : Hp} {x : V} {o : Option Str} (h : StV K H x o) : NmV K H x (nmO o) := by
  rcases h with ⟨z, rfl, hz, rfl⟩ | ⟨rfl, nm, hT, hk⟩
  · exact .inl ⟨z, rfl, hz, rfl⟩
  · exact .inr ⟨rfl, nm, hT, hk⟩
theorem StV.same {H H' : Hp} {x : V} {o : Option Str} (e : Same H H') (h : StV K H x o) : StV K H' x o := by
  rcases h with ⟨z, rfl, hz, rfl⟩ | ⟨rfl, nm, hT, hk⟩
  · exact .inl ⟨z, rfl, hz, rfl⟩
  · exact .inr ⟨rfl, nm, hT.same e, hk⟩
def edOf : List (Option Str) → Bool
  | [some w, t] => nmO t && (decide (w = "keep") || decide (w = "drop") || decide (w = "put"))
  | [some w, t, u] => nmO t && (decide (w = "turn") && (nmO u && !decide (t = u)))
  | _ => false
/-- x is an edit or not -/
def EdV (K : PySem.W.Frag) (H : Hp) (x : V) (b : Bool) : Prop := (∃ a xs os, x = .ref a ∧ SqT K H a xs ∧ Paired (StV K H) xs os ∧ b = edOf os) ∨ (b = false ∧ ∃ nm, TyX K H x (.type nm) ∧ kitB nm "tuple" = some false)
theorem paired_imp {α β : Type} {R R' : α → β → Prop} (h : ∀ a b, R a b → R' a b) : ∀ {xs : List α} {ys : List β}, Paired R xs ys → Paired R' xs ys
  | _, _, .nil => .nil
  | _, _, .cons r t => .cons (h _ _ r) (paired_imp h t)
theorem EdV.same {H H' : Hp} {x : V} {b : Bool} (e : Same H H') (h : EdV K H x b) : EdV K H' x b := by
  rcases h with ⟨a, xs, os, rfl, hS, hp, rfl⟩ | ⟨rfl, nm, hT, hk⟩
  · exact .inl ⟨a, xs, os, rfl, e.sqT hS, paired_imp (fun _ _ h => h.same e) hp, rfl⟩
  · exact .inr ⟨rfl, nm, hT.same e, hk⟩
abbrev spEdit (K : PySem.W.Frag) : Sp := sp1 fun x H Q _ => ∃ b : Bool, EdV K H x b ∧ ∀ H', Same H H' → Q (.bl b) H'
theorem ok_is_edit {f : Addr} {fd : FuncData} {k : Nat} (F : L2.Fun K "is_edit" "is_edit" s_is_edit f fd) (g : mg "is_edit" = some (.ref f)) (B : Bs mg) (c_is_name : C8.Cal P w K mg base k "is_name" (spName K) []) : C8.Cal P w K mg base (k + 1) "is_edit" (spEdit K) [] := by
  refine cal1 F g sc_is_edit (F.binds (ps := P_is_edit) fun _ _ _ _ _ _ us hl => match us, hl with | [_], _ => rfl) rfl fun cdv A outer s H Q E x hr h => ?_
  obtain ⟨b, hN, q⟩ := h
  refine ⟨_, (pss_cons (ps_if (PW.pt (pw_or (pt_not (pt_val (pe_callB (k_isi K) rfl B.b_isinstance (by decide +kernel) (pa_cons (pv 0) (pa_cons (pe_bltn (v := .ty "tuple") rfl B.b_tuple (by decide +kernel) rfl) pa_nil))))) (pw_or1 (pt_not (pt_chain op_le op_le pe_int (pe_callB (k_len K) rfl B.b_len (by decide +kernel) (pa_cons (pv 0) pa_nil)) pe_int))))) (pss_one (ps_ret pe_bl)) pss_nil)
      (pss_cons (ps_if (PW.pt (pw_or (pt_not (pt_val (pe_callB (k_isi K) rfl B.b_isinstance (by decide +kernel) (pa_cons (pe_ix (k_ix_seq K) (pv 0) pe_int (fun _ _ => rfl)) (pa_cons (pe_bltn (v := .ty "str") rfl B.b_str (by decide +kernel) rfl) pa_nil))))) (pw_or1 (pt_not (pt_val (C8.pe_c c_is_name hr (by omega) rfl (pa_cons (pe_ix (k_ix_seq K) (pv 0) pe_int (fun _ _ => rfl)) pa_nil))))))) (pss_one (ps_ret pe_bl)) pss_nil)
      (pss_cons (ps_if (pt_cmpR op_eq (pe_callB (k_len K) rfl B.b_len (by decide +kernel) (pa_cons (pv 0) pa_nil)) pe_int (by rfl)) (pss_one (ps_ret (pe_cmpR (k_in_seq K) (pe_ix (k_ix_seq K) (pv 0) pe_int (fun _ _ => rfl)) (pe_tup (pa_cons pe_str (pa_cons pe_str (pa_cons pe_str pa_nil)))) (by rfl)))) pss_nil)
      (pss_one (ps_ret (pe_and (pe_cmpR op_eq (pe_ix (k_ix_seq K) (pv 0) pe_int (fun _ _ => rfl)) pe_str (by rfl)) (pe_and (C8.pe_c c_is_name hr (by omega) rfl (pa_cons (pe_ix (k_ix_seq K) (pv 0) pe_int (fun _ _ => rfl)) pa_nil)) (pe_one (pe_cmpR op_ne (pe_ix (k_ix_seq K) (pv 0) pe_int (fun _ _ => rfl)) (pe_ix (k_ix_seq K) (pv 0) pe_int (fun _ _ => rfl)) (by rfl)))))))))), st_eq (σ' := [some _]) rfl ?_⟩
  rcases hN with ⟨a, xs, os, rfl, hS, hp, rfl⟩ | ⟨rfl, nm, hT, hk⟩
  · walk_at "go"
    refine i_isi (ty_tup hS) (b := true) (by decide +kernel) ?_
    walk_at "go"
    refine i_len (.inr hS) ?_
    walk_at "go"
    have short : ∀ (h : xs.length < 2 ∨ 3 < xs.length), edOf os = false := by
      intro h
      have hl := hp.length
      rcases os with _ | ⟨_ | o, _ | ⟨t, _ | ⟨u, _ | ⟨v, r⟩⟩⟩⟩ <;> first | rfl | (simp at hl; omega)
    refine i_d (fun h1 => ?_) (fun h1 => ?_)
    · walk_at "go"
      refine i_n (fun h2 => ?_) (fun h2 => ?_)
      · walk_at "go"
        rw [short (by omega)] at q
        exact q _ (Same.refl _)
      · walk_at "go"
        rcases hp with _ | ⟨r0, _ | ⟨r1, _ | ⟨r2, _ | ⟨r3, hp⟩⟩⟩⟩
        · simp at h1
        · simp at h1
        · rename_i x0 o0 x1 o1
          refine i_ixqT hS (v := x0) rfl ?_
          walk_at "go"
          rcases r0 with ⟨w0, rfl, hw, rfl⟩ | ⟨rfl, nm, hT, hk⟩
          · refine i_isi ty_str (b := true) (by decide +kernel) ?_
            walk_at "go"
            refine i_ixqT hS (v := x1) rfl ?_
            walk_at "go"
            refine ⟨_, r1.nm, ?_⟩
            walk_at "go"
            cases hn : nmO o1 with
            | false =>
              walk_at "go"
              have : edOf [some w0, o1] = false := by simp [edOf, hn]
              rw [this] at q
              exact q _ (Same.refl _)
            | true =>
              walk_at "go"
              refine i_len (.inr hS) ?_
              walk_at "go"
              walk_at "t"
              walk_at "go"
              refine i_ixqT hS (v := .str w0) rfl ?_
              walk_at "go"
              refine i_new (by simp) fun p np => ?_
              refine i_in (.inr (sqT upd_same)) rfl rfl ?_
              have : edOf [some w0, o1] = inV (.str w0) [.str "keep", .str "drop", .str "put"] := by
                simp only [edOf, hn, inV, List.any_cons, List.any_nil, eqV, Bool.true_and, Bool.or_false, str_beq', Bool.or_assoc]
              rw [this] at q
              exact q _ (Same.new np)
          · refine i_isi hT hk ?_
            walk_at "go"
            exact q _ (Same.refl _)
        · rename_i x0 o0 x1 o1 x2 o2
          refine i_ixqT hS (v := x0) rfl ?_
          walk_at "go"
          rcases r0 with ⟨w0, rfl, hw, rfl⟩ | ⟨rfl, nm, hT, hk⟩
          · refine i_isi ty_str (b := true) (by decide +kernel) ?_
            walk_at "go"
            refine i_ixqT hS (v := x1) rfl ?_
            walk_at "go"
            refine ⟨_, r1.nm, ?_⟩
            walk_at "go"
            cases hn : nmO o1 with
            | false =>
              walk_at "go"
              have : edOf [some w0, o1, o2] = false := by simp [edOf, hn]
              rw [this] at q
              exact q _ (Same.refl _)
            | true =>
              walk_at "go"
              refine i_len (.inr hS) ?_
              walk_at "go"
              walk_at "f"
              walk_at "go"
              refine i_ixqT hS (v := .str w0) rfl ?_
              walk_at "go"
              refine i_d (fun h3 => ?_) (fun h3 => ?_)
              · walk_at "go"
                refine i_ixqT hS (v := x2) rfl ?_
                walk_at "go"
                refine ⟨_, r2.nm, ?_⟩
                walk_at "go"
                cases h3
                cases hn2 : nmO o2 with
                | false =>
                  walk_at "go"
                  have : edOf [some (Str.ofString "turn"), o1, o2] = false := by simp [edOf, hn, hn2]
                  rw [this] at q
                  exact q _ (Same.refl _)
                | true =>
                  walk_at "go"
                  rcases r1 with ⟨w1, rfl, hw1, rfl⟩ | ⟨rfl, _⟩
                  · rcases r2 with ⟨w2, rfl, hw2, rfl⟩ | ⟨rfl, _⟩
                    · refine i_ixqT hS (v := .str w1) rfl ?_
                      walk_at "go"
                      refine i_ixqT hS (v := .str w2) rfl ?_
                      walk_at "go"
                      have : edOf [some (Str.ofString "turn"), some w1, some w2] = !decide (V.str w1 = V.str w2) := by
                        simp [edOf, hn, hn2]
                      rw [this] at q
                      exact q _ (Same.refl _)
                    · cases hn2
                  · cases hn
              · walk_at "go"
                have : edOf [some w0, o1, o2] = false := by
                  have : ¬ w0 = Str.ofString "turn" := fun e => h3 (by rw [e])
                  simp [edOf, this]
                rw [this] at q
                exact q _ (Same.refl _)
          · refine i_isi hT hk ?_
            walk_at "go"
            exact q _ (Same.refl _)
        · simp at h2
          omega
    · walk_at "go"
      rw [short (by omega)] at q
      exact q _ (Same.refl _)
  · walk_at "go"
    refine i_isi hT hk ?_
    walk_at "go"
    exact q _ (Same.refl _)

/-! ### edits.py: scripts -/
def badAt (bs : List Bool) : V := if 5000 < bs.length then .int (-1) else match bs.findIdx? (fun b => !b) with
  | some k => .int (k : Nat)
  | none => .non
theorem paired_get {α β : Type} {R : α → β → Prop} : ∀ {xs : List α} {ys : List β} {i : Nat} {x : α}, Paired R xs ys → xs[i]? = some x → ∃ y, ys[i]? = some y ∧ R x y
  | _, _, _, _, .nil, e => by simp at e
  | _, _, 0, _, .cons r _, e => by simp at e; subst e; exact ⟨_, rfl, r⟩
  | _, _, i + 1, x, .cons _ t, e => by
    obtain ⟨u, h1, h2⟩ := paired_get (i := i) (x := x) t (by simpa using e)
    exact ⟨u, by simpa using h1, h2⟩
theorem find_first {bs : List Bool} {i : Nat} (h : bs[i]? = some false) (ha : ∀ j, j < i → bs[j]? = some true) : bs.findIdx? (fun b => !b) = some i := by
  rw [List.findIdx?_eq_some_iff_getElem]
  obtain ⟨hi, e⟩ := List.getElem?_eq_some_iff.mp h
  refine ⟨hi, by rw [e]; rfl, fun j hj => ?_⟩
  obtain ⟨hj2, e2⟩ := List.getElem?_eq_some_iff.mp (ha j hj)
  rw [e2]
  decide
theorem find_none {bs : List Bool} (ha : ∀ j, j < bs.length → bs[j]? = some true) : bs.findIdx? (fun b => !b) = none := by
  rw [List.findIdx?_eq_none_iff]
  intro b hb
  obtain ⟨j, hj, e⟩ := List.getElem_of_mem hb
  have := ha j hj
  rw [List.getElem?_eq_getElem hj, e] at this
  cases this
  rfl
/-- x is a value that bad_edit is asked of; v what it gives -/
def BsV (K : PySem.W.Frag) (H : Hp) (x : V) (v : V) : Prop :=
  (ItV K H x false ∧ v = .int (-1)) ∨
  ∃ a xs bs, x = .ref a ∧ Sq K H a xs ∧ Paired (EdV K H) xs bs ∧ v = badAt bs
abbrev spBadEdit (K : PySem.W.Frag) : Sp := sp1 fun x H Q _ => ∃ v, BsV K H x v ∧ ∀ H', Same H H' → Q v H'
theorem ok_bad_edit {f : Addr} {fd : FuncData} {k : Nat} (F : L2.Fun K "bad_edit" "bad_edit" s_bad_edit f fd) (g : mg "bad_edit" = some (.ref f)) (B : Bs mg) (c_is_items : C8.Cal P w K mg base k "is_items" (spItems K) []) (c_is_edit : C8.Cal P w K mg base k "is_edit" (spEdit K) []) : C8.Cal P w K mg base (k + 1) "bad_edit" (spBadEdit K) [] := by
  refine cal1 F g sc_bad_edit (F.binds (ps := P_bad_edit) fun _ _ _ _ _ _ us hl => match us, hl with | [_], _ => rfl) rfl fun cdv A outer s H Q E x hr h => ?_
  obtain ⟨v, hN, q⟩ := h
  refine ⟨_, (pss_cons (ps_if (PW.pt (pw_or (pt_not (pt_val (C8.pe_c c_is_items hr (by omega) rfl (pa_cons (pv 0) pa_nil)))) (pw_or1 (pt_cmpR op_gt (pe_callB (k_len K) rfl B.b_len (by decide +kernel) (pa_cons (pv 0) pa_nil)) (C8.pe_gc rfl B.x_MOST_EDITS) (by rfl))))) (pss_one (ps_ret (pe_un un_neg pe_int))) pss_nil)
      (pss_cons (ps_for PassesOwn.never rfl (k_penum K rfl B.b_enumerate (pa_cons (pv 0) pa_nil)) (k_ptup K 2 rfl (pgs_cons (pg_name (i := 1) sc_bad_edit.nd rfl (.inl rfl)) (pgs_cons (pg_name (i := 2) sc_bad_edit.nd rfl (.inl rfl)) pgs_nil)))
      (pss_one (ps_if (pt_not (pt_val (C8.pe_c c_is_edit hr (by omega) rfl (pa_cons (pv 2) pa_nil)))) (pss_one (ps_ret (pv 1))) pss_nil)))
      (pss_one (ps_ret pe_non)))), st_eq (σ' := [some _, none, none]) rfl ?_⟩
  rcases hN with ⟨hT, rfl⟩ | ⟨a, xs, bs, rfl, hS, hp, rfl⟩
  · walk_at "go"
    refine ⟨_, hT, fun H1 s1 => ?_⟩
    walk_at "go"
    exact q _ s1
  · have hl := hp.length
    walk_at "go"
    refine ⟨_, ItV.sq hS, fun H1 s1 => ?_⟩
    walk_at "go"
    refine i_len (s1.sq hS) ?_
    walk_at "go"
    refine i_d (fun h3 => ?_) (fun h3 => ?_)
    · walk_at "go"
      have : badAt bs = .int (-1) := by
        unfold badAt
        rw [if_pos (by omega)]
      rw [this] at q
      exact q _ s1
    · walk_at "go"
      have hb2 : badAt bs = match bs.findIdx? (fun b => !b) with
          | some k => .int (k : Nat)
          | none => .non := by
        unfold badAt
        rw [if_neg (by omega)]
      refine f_enum (s1.sq hS) (fun i σ H' => ∃ y1 y2, σ = [some (.ref a), y1, y2] ∧ Same H1 H' ∧ ∀ j, j < i → bs[j]? = some true) ⟨none, none, rfl, Same.refl _, by simp⟩ ?_ ?_ ?_
      · rintro i σ H' hi ⟨y1, y2, rfl, s2, ha⟩ o ho
        exact s2 _ _ ho
      · rintro i x σ H' T hx ⟨y1, y2, rfl, s2, ha⟩ nT
        refine i_gTup2 (sqT upd_same) ?_
        walk_at "go"
        obtain ⟨b, hb3, hE⟩ := paired_get hp hx
        have s3 : Same H (upd H' T (.tup [.int (i : Nat), x])) := s1.trans (s2.trans (Same.new nT))
        refine ⟨b, hE.same s3, fun H2 s4 => ?_⟩
        walk_at "go"
        cases b with
        | false =>
          walk_at "go"
          rw [hb2, find_first hb3 ha] at q
          exact q _ (s3.trans s4)
        | true =>
          walk_at "go"
          refine ⟨_, _, rfl, (s2.trans (Same.new nT)).trans s4, fun j hj => ?_⟩
          by_cases e : j = i
          · rw [e]; exact hb3
          · exact ha j (by omega)
      · rintro σ H' ⟨y1, y2, rfl, s2, ha⟩
        walk_at "go"
        rw [hb2, find_none (by rw [hl] at ha; exact ha)] at q
        exact q _ (s1.trans s2)

/-! ### edits.py: source, target, cost of a good script -/
/-- x is the edit of these texts -/
def EdS (K : PySem.W.Frag) (H : Hp) (x : V) (ss : List Str) : Prop := ∃ e, x = .ref e ∧ SqT K H e (ss.map V.str) ∧ (∀ z ∈ ss, z.length ≤ sizeLine) ∧ edOf (ss.map some) = true
theorem EdS.same {H H' : Hp} {x : V} {ss : List Str} (e : Same H H') (h : EdS K H x ss) : EdS K H' x ss := by
  obtain ⟨a, rfl, hS, hz, hg⟩ := h
  exact ⟨a, rfl, e.sqT hS, hz, hg⟩
theorem EdS.edV {H : Hp} {x : V} {ss : List Str} (h : EdS K H x ss) : EdV K H x true := by
  obtain ⟨a, rfl, hS, hz, hg⟩ := h
  refine .inl ⟨a, _, ss.map some, rfl, hS, ?_, hg.symm⟩
  clear hS hg
  induction ss with
  | nil => exact .nil
  | cons z ss ih => exact .cons (.inl ⟨z, rfl, hz z (by simp), rfl⟩) (ih fun y hy => hz y (by simp [hy]))
/-- x is the script of these edits -/
def GsV (K : PySem.W.Frag) (H : Hp) (x : V) (es : List (List Str)) : Prop := ∃ a xs, x = .ref a ∧ Sq K H a xs ∧ Paired (EdS K H) xs es ∧ es.length ≤ 5000
theorem GsV.same {H H' : Hp} {x : V} {es : List (List Str)} (e : Same H H') (h : GsV K H x es) : GsV K H' x es := by
  obtain ⟨a, xs, rfl, hS, hp, hl⟩ := h
  exact ⟨a, xs, rfl, e.sq hS, paired_imp (fun _ _ h => h.same e) hp, hl⟩
theorem paired_map {α β γ : Type} {R : α → β → Prop} {R' : α → γ → Prop} {f : β → γ} (h : ∀ a b, R a b → R' a (f b)) : ∀ {xs : List α} {ys : List β}, Paired R xs ys → Paired R' xs (ys.map f)
  | _, _, .nil => .nil
  | _, _, .cons r t => .cons (h _ _ r) (paired_map h t)
theorem GsV.bs {H : Hp} {x : V} {es : List (List Str)} (h : GsV K H x es) : BsV K H x .non := by
  obtain ⟨a, xs, rfl, hS, hp, hl⟩ := h
  refine .inr ⟨a, xs, es.map fun _ => true, rfl, hS, paired_map (fun _ _ h => h.edV) hp, ?_⟩
  unfold badAt
  rw [List.length_map, if_neg (by omega), find_none]
  intro j hj
  rw [List.length_map] at hj
  rw [List.getElem?_map, List.getElem?_eq_getElem hj]
  rfl
abbrev spNeedS (K : PySem.W.Frag) : Sp := sp1 fun x H Q _ => ∃ es, GsV K H x es ∧ ∀ H', Same H H' → Q .non H'
theorem ok_need_script {f : Addr} {fd : FuncData} {k : Nat} (F : L2.Fun K "need_script" "need_script" s_need_script f fd) (g : mg "need_script" = some (.ref f)) (B : Bs mg) (c_bad_edit : C8.Cal P w K mg base k "bad_edit" (spBadEdit K) []) : C8.Cal P w K mg base (k + 1) "need_script" (spNeedS K) [] := by
  refine cal1 F g sc_need_script (F.binds (ps := P_need_script) fun _ _ _ _ _ _ us hl => match us, hl with | [_], _ => rfl) rfl fun cdv A outer s H Q E x hr h => ?_
  obtain ⟨es, hN, q⟩ := h
  refine ⟨_, (pss_cons (ps_set (i := 1) sc_need_script.nd rfl (.inl rfl) (C8.pe_c c_bad_edit hr (by omega) rfl (pa_cons (pv 0) pa_nil)))
      (pss_one (ps_if (pt_cmpR o_notN (pv 1) pe_non (by rfl)) (pss_one ps_never) pss_nil))), st_eq (σ' := [some _, none]) rfl ?_⟩
  walk_at "go"
  refine ⟨_, hN.bs, fun H1 s1 => ?_⟩
  walk_at "go"
  walk_at "f"
  walk_at "go"
  exact q _ s1
def srcOf (es : List (List Str)) : List Str := (es.filter fun e => !decide (e.head? = some (Str.ofString "put"))).map fun e => e.getD 1 (Str.ofString "")
def tgtOf (es : List (List Str)) : List Str := (es.filter fun e => !decide (e.head? = some (Str.ofString "drop"))).map fun e => e.getLastD (Str.ofString "")
def costOf (es : List (List Str)) : Nat := (es.filter fun e => !decide (e.head? = some (Str.ofString "keep"))).length
theorem ed_len {ss : List Str} (h : edOf (ss.map some) = true) : ∃ w t r, ss = w :: t :: r ∧ r.length ≤ 1 := by
  rcases ss with _ | ⟨w, _ | ⟨t, _ | ⟨u, _ | ⟨v, r⟩⟩⟩⟩
  · cases h
  · cases h
  · exact ⟨w, t, [], rfl, by simp⟩
  · exact ⟨w, t, [u], rfl, by simp⟩
  · cases h
theorem take_succ' {α : Type} {l : List α} {i : Nat} {x : α} (h : l[i]? = some x) : l.take (i + 1) = l.take i ++ [x] := by
  rw [List.take_add_one, h]; rfl
abbrev spSource (K : PySem.W.Frag) : Sp := sp1 fun x H Q _ => ∃ es, GsV K H x es ∧ ∀ H' p, Same H H' → H p = none → H' p = some (.tup ((srcOf es).map V.str)) → Q (.ref p) H'
theorem ok_source {f : Addr} {fd : FuncData} {k : Nat} (F : L2.Fun K "source" "source" s_source f fd) (g : mg "source" = some (.ref f)) (B : Bs mg) (c_need_script : C8.Cal P w K mg base k "need_script" (spNeedS K) []) : C8.Cal P w K mg base (k + 1) "source" (spSource K) [] := by
  refine cal1 F g sc_source (F.binds (ps := P_source) fun _ _ _ _ _ _ us hl => match us, hl with | [_], _ => rfl) rfl fun cdv A outer s H Q E x hr h => ?_
  obtain ⟨es, hN, q⟩ := h
  refine ⟨_, (pss_cons (ps_expr (C8.pe_c c_need_script hr (by omega) rfl (pa_cons (pv 0) pa_nil)))
      (pss_one (ps_ret (pe_callTy (k_tuple_of K) rfl B.b_tuple (by decide +kernel) (pa_cons (pe_lc (own := [("edit", 1)]) rfl sc_source.nd (k_pseq K (pv 0)) (blkOk_by (own := [("edit", 1)]) (N := N_source) (sc := defScope s_source) (by decide +kernel))
        (fun _ _ _ _ _ => (pg_name (i := 1) sc_source.nd rfl (.inl rfl))) (fun _ _ _ _ _ => pts_one (pt_cmpR op_ne (pe_ix (k_ix_seq K) (pv 1) pe_int (fun _ _ => rfl)) pe_str (by rfl))) (fun _ _ _ _ _ => (pe_ix (k_ix_seq K) (pv 1) pe_int (fun _ _ => rfl)))) pa_nil))))), st_eq (σ' := [some _, none]) rfl ?_⟩
  walk_at "go"
  refine ⟨_, hN, fun H1 s1 => ?_⟩
  walk_at "go"
  obtain ⟨a, xs, rfl, hS, hp, hl⟩ := hN.same s1
  refine l_seq hS (fun D i H' => Same H1 H' ∧ H' D = some (.lst ((srcOf (es.take i)).map V.str))) (fun D hD => ⟨Same.new hD, upd_same⟩) (fun D i H' hD hi p o => p.1 _ _) ?_ ?_
  · rintro D i x H' hD hx ⟨s2, hA⟩
    obtain ⟨ss, hss, e, rfl, hE, hz, hg⟩ := paired_get hp hx
    obtain ⟨w, t, r, rfl, hr⟩ := ed_len hg
    have hlen : (srcOf (es.take i)).length ≤ 5000 := by
      unfold srcOf
      rw [List.length_map]
      refine Nat.le_trans (List.length_filter_le _ _) ?_
      rw [List.length_take]
      omega
    walk_at "go"
    refine i_ixqT (s2.sqT hE) (v := .str w) (atI_nat (j := 0) rfl) ?_
    walk_at "go"
    have es1 : es.take (i + 1) = es.take i ++ [w :: t :: r] := take_succ' hss
    refine i_n (fun h3 => ?_) (fun h3 => ?_)
    · walk_at "go"
      refine i_ixqT (s2.sqT hE) (v := .str t) (atI_nat (j := 1) rfl) ?_
      refine ⟨_, hA, szl (by rw [List.length_map]; omega), s2.loc hD, ?_⟩
      have h4 : ¬ w = Str.ofString "put" := fun e => h3 (by rw [e])
      rw [upd_same, es1]
      simp [srcOf, h4]
    · refine ⟨s2, ?_⟩
      have h4 : w = Str.ofString "put" := V.str.inj h3
      rw [hA, es1]
      simp [srcOf, h4]
  · rintro D H' hD ⟨s2, hA⟩
    walk_at "go"
    refine i_tupOfL (sqL hA) fun p np => ?_
    rw [hp.length, List.take_length] at *
    exact q _ _ ((s1.trans s2).trans (Same.new np)) ((s1.trans s2).free np) upd_same
abbrev spTarget (K : PySem.W.Frag) : Sp := sp1 fun x H Q _ => ∃ es, GsV K H x es ∧ ∀ H' p, Same H H' → H p = none → H' p = some (.tup ((tgtOf es).map V.str)) → Q (.ref p) H'
theorem ok_target {f : Addr} {fd : FuncData} {k : Nat} (F : L2.Fun K "target" "target" s_target f fd) (g : mg "target" = some (.ref f)) (B : Bs mg) (c_need_script : C8.Cal P w K mg base k "need_script" (spNeedS K) []) : C8.Cal P w K mg base (k + 1) "target" (spTarget K) [] := by
  refine cal1 F g sc_target (F.binds (ps := P_target) fun _ _ _ _ _ _ us hl => match us, hl with | [_], _ => rfl) rfl fun cdv A outer s H Q E x hr h => ?_
  obtain ⟨es, hN, q⟩ := h
  refine ⟨_, (pss_cons (ps_expr (C8.pe_c c_need_script hr (by omega) rfl (pa_cons (pv 0) pa_nil)))
      (pss_one (ps_ret (pe_callTy (k_tuple_of K) rfl B.b_tuple (by decide +kernel) (pa_cons (pe_lc (own := [("edit", 1)]) rfl sc_target.nd (k_pseq K (pv 0)) (blkOk_by (own := [("edit", 1)]) (N := N_target) (sc := defScope s_target) (by decide +kernel))
        (fun _ _ _ _ _ => (pg_name (i := 1) sc_target.nd rfl (.inl rfl))) (fun _ _ _ _ _ => pts_one (pt_cmpR op_ne (pe_ix (k_ix_seq K) (pv 1) pe_int (fun _ _ => rfl)) pe_str (by rfl))) (fun _ _ _ _ _ => (pe_ix (k_ix_seq K) (pv 1) (pe_un un_neg pe_int) (fun _ _ => rfl)))) pa_nil))))), st_eq (σ' := [some _, none]) rfl ?_⟩
  walk_at "go"
  refine ⟨_, hN, fun H1 s1 => ?_⟩
  walk_at "go"
  obtain ⟨a, xs, rfl, hS, hp, hl⟩ := hN.same s1
  refine l_seq hS (fun D i H' => Same H1 H' ∧ H' D = some (.lst ((tgtOf (es.take i)).map V.str))) (fun D hD => ⟨Same.new hD, upd_same⟩) (fun D i H' hD hi p o => p.1 _ _) ?_ ?_
  · rintro D i x H' hD hx ⟨s2, hA⟩
    obtain ⟨ss, hss, e, rfl, hE, hz, hg⟩ := paired_get hp hx
    obtain ⟨w, t, r, rfl, hr⟩ := ed_len hg
    have hlen : (tgtOf (es.take i)).length ≤ 5000 := by
      unfold tgtOf
      rw [List.length_map]
      refine Nat.le_trans (List.length_filter_le _ _) ?_
      rw [List.length_take]
      omega
    walk_at "go"
    refine i_ixqT (s2.sqT hE) (v := .str w) (atI_nat (j := 0) rfl) ?_
    walk_at "go"
    have es1 : es.take (i + 1) = es.take i ++ [w :: t :: r] := take_succ' hss
    refine i_n (fun h3 => ?_) (fun h3 => ?_)
    · walk_at "go"
      refine i_ixqT (s2.sqT hE) (v := .str ((w :: t :: r).getLastD (Str.ofString ""))) ?_ ?_
      · rcases r with _ | ⟨u, _ | ⟨v, r⟩⟩
        · rfl
        · rfl
        · simp at hr
      refine ⟨_, hA, szl (by rw [List.length_map]; omega), s2.loc hD, ?_⟩
      have h4 : ¬ w = Str.ofString "drop" := fun e => h3 (by rw [e])
      rw [upd_same, es1]
      simp [tgtOf, h4]
    · refine ⟨s2, ?_⟩
      have h4 : w = Str.ofString "drop" := V.str.inj h3
      rw [hA, es1]
      simp [tgtOf, h4]
  · rintro D H' hD ⟨s2, hA⟩
    walk_at "go"
    refine i_tupOfL (sqL hA) fun p np => ?_
    rw [hp.length, List.take_length] at *
    exact q _ _ ((s1.trans s2).trans (Same.new np)) ((s1.trans s2).free np) upd_same
abbrev spCost (K : PySem.W.Frag) : Sp := sp1 fun x H Q _ => ∃ es, GsV K H x es ∧ ∀ H', Same H H' → Q (.int (costOf es : Nat)) H'
theorem ok_cost {f : Addr} {fd : FuncData} {k : Nat} (F : L2.Fun K "cost" "cost" s_cost f fd) (g : mg "cost" = some (.ref f)) (B : Bs mg) (c_need_script : C8.Cal P w K mg base k "need_script" (spNeedS K) []) : C8.Cal P w K mg base (k + 1) "cost" (spCost K) [] := by
  refine cal1 F g sc_cost (F.binds (ps := P_cost) fun _ _ _ _ _ _ us hl => match us, hl with | [_], _ => rfl) rfl fun cdv A outer s H Q E x hr h => ?_
  obtain ⟨es, hN, q⟩ := h
  refine ⟨_, (pss_cons (ps_expr (C8.pe_c c_need_script hr (by omega) rfl (pa_cons (pv 0) pa_nil)))
      (pss_one (ps_ret (pe_callB (k_len K) rfl B.b_len (by decide +kernel) (pa_cons (pe_lc (own := [("edit", 1)]) rfl sc_cost.nd (k_pseq K (pv 0)) (blkOk_by (own := [("edit", 1)]) (N := N_cost) (sc := defScope s_cost) (by decide +kernel))
        (fun _ _ _ _ _ => (pg_name (i := 1) sc_cost.nd rfl (.inl rfl))) (fun _ _ _ _ _ => pts_one (pt_cmpR op_ne (pe_ix (k_ix_seq K) (pv 1) pe_int (fun _ _ => rfl)) pe_str (by rfl))) (fun _ _ _ _ _ => (pv 1))) pa_nil))))), st_eq (σ' := [some _, none]) rfl ?_⟩
  walk_at "go"
  refine ⟨_, hN, fun H1 s1 => ?_⟩
  walk_at "go"
  obtain ⟨a, xs, rfl, hS, hp, hl⟩ := hN.same s1
  refine l_seq hS (fun D i H' => Same H1 H' ∧ ∃ ys, H' D = some (.lst ys) ∧ ys.length = costOf (es.take i)) (fun D hD => ⟨Same.new hD, _, upd_same, rfl⟩) (fun D i H' hD hi p o => p.1 _ _) ?_ ?_
  · rintro D i x H' hD hx ⟨s2, ys, hA, hy⟩
    obtain ⟨ss, hss, e, rfl, hE, hz, hg⟩ := paired_get hp hx
    obtain ⟨w, t, r, rfl, hr⟩ := ed_len hg
    have hlen : costOf (es.take i) ≤ 5000 := by
      unfold costOf
      refine Nat.le_trans (List.length_filter_le _ _) ?_
      rw [List.length_take]
      omega
    walk_at "go"
    refine i_ixqT (s2.sqT hE) (v := .str w) (atI_nat (j := 0) rfl) ?_
    walk_at "go"
    have es1 : es.take (i + 1) = es.take i ++ [w :: t :: r] := take_succ' hss
    refine i_n (fun h3 => ?_) (fun h3 => ?_)
    · walk_at "go"
      refine ⟨_, hA, szl (by omega), s2.loc hD, _, upd_same, ?_⟩
      have h4 : ¬ w = Str.ofString "keep" := fun e => h3 (by rw [e])
      rw [es1]
      unfold costOf at *
      simp [h4, hy]
    · refine ⟨s2, ys, hA, ?_⟩
      have h4 : w = Str.ofString "keep" := V.str.inj h3
      rw [hy, es1]
      simp [costOf, h4]
  · rintro D H' hD ⟨s2, ys, hA, hy⟩
    refine i_len (.inl (sqL hA)) ?_
    rw [hp.length, List.take_length] at *
    rw [hy]
    exact q _ (s1.trans s2)

/-! ### the law's own draws -/
def Kp (S : List Addr) (H H' : Hp) : Prop := ∀ a o, a ∉ S → H a = some o → H' a = some o
theorem Kp.refl {S : List Addr} {H : Hp} : Kp S H H := fun _ _ _ h => h
theorem Kp.trans {S : List Addr} {H H1 H2 : Hp} (a : Kp S H H1) (b : Kp S H1 H2) : Kp S H H2 := fun x o n h => b x o n (a x o n h)
theorem Kp.same {S : List Addr} {H H' : Hp} (e : Same H H') : Kp S H H' := fun a o _ h => e a o h
theorem Kp.then {S : List Addr} {H H1 H2 : Hp} (a : Kp S H H1) (b : Same H1 H2) : Kp S H H2 := a.trans (.same b)
theorem Kp.new {S : List Addr} {H H1 : Hp} {p : Addr} {o : HO} (a : Kp S H H1) (h : H1 p = none) : Kp S H (upd H1 p o) := a.then (Same.new h)
theorem Kp.at {S : List Addr} {H H1 : Hp} {p : Addr} {o : HO} (a : Kp S H H1) (h : p ∈ S) : Kp S H (upd H1 p o) := fun b u n e => by
  rw [upd_ne (fun z => n (by rw [z]; exact h))]
  exact a b u n e
theorem Kp.loc {S : List Addr} {H H1 : Hp} {p : Addr} {o : HO} (a : Kp S H H1) (h : H p = none) : Kp S H (upd H1 p o) := fun b u n e => by
  rw [upd_ne (ne_of_none e h)]
  exact a b u n e
/-- tuples stay -/
def tupO : HO → Bool
  | .tup _ => true
  | .frz _ (.tup _) => true
  | _ => false
def KT (H H' : Hp) : Prop := ∀ a o, tupO o = true → H a = some o → H' a = some o
theorem KT.refl {H : Hp} : KT H H := fun _ _ _ h => h
theorem KT.trans {H H1 H2 : Hp} (a : KT H H1) (b : KT H1 H2) : KT H H2 := fun x o n h => b x o n (a x o n h)
theorem KT.same {H H' : Hp} (e : Same H H') : KT H H' := fun a o _ h => e a o h
theorem KT.updL {H : Hp} {r : Addr} {zs : List V} {o : HO} (h : H r = some (.lst zs)) : KT H (upd H r o) := fun a u n e => by
  rw [upd_ne]
  · exact e
  · rintro rfl
    rw [h] at e
    cases e
    cases n
theorem KT.sqT {H H' : Hp} (k : KT H H') {a : Addr} {xs : List V} (h : SqT K H a xs) : SqT K H' a xs := by
  rcases h with (h | ⟨o, h⟩) | h
  · exact .inl (.inl (k _ _ rfl h))
  · exact .inl (.inr ⟨o, k _ _ rfl h⟩)
  · exact .inr h
structure Purse (H : Hp) (p c g : Addr) : Prop where
  ex : ∃ (cs gs : List Int) (n : Int), H p = some (.lst [.ref c, .ref g, .int n]) ∧ H c = some (.lst (cs.map V.int)) ∧ H g = some (.lst (gs.map V.int)) ∧ cs ≠ [] ∧ gs.length = cs.length ∧ 0 ≤ n ∧ ∀ x ∈ gs, 0 ≤ x
  cg : c ≠ g
theorem Purse.pc {H : Hp} {p c g : Addr} (h : Purse H p c g) : p ≠ c := by
  obtain ⟨cs, gs, n, hp, hc, hg, hn, _⟩ := h.ex
  refine ne_of hp hc fun e => ?_
  injection e with e
  rcases cs with _ | ⟨a, _ | ⟨b, cs⟩⟩ <;> simp at e
theorem Purse.pg {H : Hp} {p c g : Addr} (h : Purse H p c g) : p ≠ g := by
  obtain ⟨cs, gs, n, hp, hc, hg, hn, hl, _⟩ := h.ex
  refine ne_of hp hg fun e => ?_
  injection e with e
  rcases gs with _ | ⟨a, _ | ⟨b, gs⟩⟩ <;> simp at e
theorem Purse.same {H H' : Hp} {p c g : Addr} (e : Same H H') (h : Purse H p c g) : Purse H' p c g := by
  obtain ⟨cs, gs, n, hp, hc, hg, r⟩ := h.ex
  exact ⟨⟨cs, gs, n, e _ _ hp, e _ _ hc, e _ _ hg, r⟩, h.cg⟩
theorem Purse.kp {H : Hp} {p c g a : Addr} (h : Purse H p c g) : H p ≠ none ∧ H c ≠ none ∧ H g ≠ none := by
  obtain ⟨cs, gs, n, hp, hc, hg, r⟩ := h.ex
  exact ⟨by rw [hp]; simp, by rw [hc]; simp, by rw [hg]; simp⟩
/-- an object that the purse is not -/
theorem Purse.out {H : Hp} {p c g : Addr} (h : Purse H p c g) {a : Addr} (ha : H a = none) : a ∉ [p, g] := by
  have := h.kp (a := a)
  intro m
  simp at m
  rcases m with rfl | rfl
  · exact this.1 ha
  · exact this.2.2 ha
theorem Purse.outT {H : Hp} {p c g : Addr} (h : Purse H p c g) {a : Addr} {o : HO} (ho : tupO o = true) (ha : H a = some o) : a ∉ [p, g] := by
  obtain ⟨cs, gs, n, hp, hc, hg, r⟩ := h.ex
  intro m
  simp at m
  rcases m with rfl | rfl
  · rw [hp] at ha; cases ha; cases ho
  · rw [hg] at ha; cases ha; cases ho
theorem Purse.kt {H H' : Hp} {p c g : Addr} (h : Purse H p c g) (e : Kp [p, g] H H') : KT H H' := fun a o ho ha => e a _ (h.outT ho ha) ha
/-- a change elsewhere -/
theorem Purse.upd {H : Hp} {p c g : Addr} (h : Purse H p c g) {a : Addr} {o : HO} (h1 : a ≠ p) (h2 : a ≠ c) (h3 : a ≠ g) : Purse (upd H a o) p c g := by
  obtain ⟨cs, gs, n, hp, hc, hg, r⟩ := h.ex
  exact ⟨⟨cs, gs, n, by rw [upd_ne h1.symm]; exact hp, by rw [upd_ne h2.symm]; exact hc, by rw [upd_ne h3.symm]; exact hg, r⟩, h.cg⟩
abbrev spDraw : Sp := sp2 fun x y H Q _ => ∃ (p c g : Addr) (many : Int), x = .ref p ∧ y = .int many ∧ 1 ≤ many ∧ many ≤ 10 ^ 40 ∧ Purse H p c g ∧ ∀ (v : Int) (H' : Hp), 0 ≤ v → v < many → Kp [p, g] H H' → Purse H' p c g → Q (.int v) H'
theorem cdivw {i j : Int} (h : 1 ≤ j) (h2 : j ≤ 10 ^ 40) : CDivW i j := wide_div (b := 200) (by omega) (by
  have e : (10 : Int) ^ 40 = 10000000000000000000000000000000000000000 := by decide
  have e2 : 2 ^ 200 = 1606938044258990275541962092341162602522202993782792835301376 := by decide
  rw [e] at h2
  rw [e2]
  omega) (by decide) (by decide)
theorem get_int {gs : List Int} {j : Nat} (h : j < gs.length) : (gs.map V.int)[j]? = some (.int gs[j]) := by
  rw [List.getElem?_map, List.getElem?_eq_getElem h]; rfl
theorem ok__law_draw {f : Addr} {fd : FuncData} {k : Nat} (F : L2.Fun K "_law_draw" "_law_draw" s__law_draw f fd) (g : mg "_law_draw" = some (.ref f)) (B : Bs mg)  : C8.Cal P w K mg base (k + 1) "_law_draw" (spDraw) [] := by
  refine cal2 F g sc__law_draw (F.binds (ps := P__law_draw) fun _ _ _ _ _ _ us hl => match us, hl with | [_, _], _ => rfl) rfl fun cdv A outer s H Q E x y hr h => ?_
  obtain ⟨p, c, g0, many, rfl, rfl, h1, h2, hP, q⟩ := h
  obtain ⟨⟨cs, gs, n, hp, hc, hg, hne, hl, hn, hpos⟩, cg⟩ := id hP
  refine ⟨_, (pss_cons (ps_asg (pe_op op_add (pe_ix (k_ix_seq K) (pv 0) pe_int (fun _ _ => rfl)) pe_int) (pg_sub (pv 0) pe_int set_list))
      (pss_cons (ps_set (i := 2) sc__law_draw.nd rfl (.inl rfl) (pe_op op_mod (pe_callTy c_int1 rfl B.b_int (by decide +kernel) (pa_cons (pe_ix (k_ix_seq K) (pv 0) pe_int (fun _ _ => rfl)) pa_nil)) (pe_callB (k_len K) rfl B.b_len (by decide +kernel) (pa_cons (pe_ix (k_ix_seq K) (pv 0) pe_int (fun _ _ => rfl)) pa_nil))))
      (pss_cons (ps_set (i := 3) sc__law_draw.nd rfl (.inl rfl) (pe_ix (k_ix_seq K) (pe_ix (k_ix_seq K) (pv 0) pe_int (fun _ _ => rfl)) (pv 2) (fun _ _ => rfl)))
      (pss_cons (ps_if (pt_cmpR op_gt (pv 3) pe_int (by rfl)) (pss_cons (ps_asg (pe_op op_fdivW (pv 3) (pv 1)) (pg_sub (pe_ix (k_ix_seq K) (pv 0) pe_int (fun _ _ => rfl)) (pv 2) set_list))
      (pss_one (ps_ret (pe_op op_mod (pe_callTy c_int1 rfl B.b_int (by decide +kernel) (pa_cons (pv 3) pa_nil)) (pv 1))))) pss_nil)
      (pss_cons (ps_set (i := 4) sc__law_draw.nd rfl (.inl rfl) (pe_op op_add (pe_op op_add (pe_op op_mod (pe_callTy c_int1 rfl B.b_int (by decide +kernel) (pa_cons (pe_ix (k_ix_seq K) (pe_ix (k_ix_seq K) (pv 0) pe_int (fun _ _ => rfl)) (pv 2) (fun _ _ => rfl)) pa_nil)) pe_int) (pe_op op_mul pe_int (pe_ix (k_ix_seq K) (pv 0) pe_int (fun _ _ => rfl)))) pe_int))
      (pss_cons (ps_set (i := 4) sc__law_draw.nd rfl (.inl rfl) (pe_op op_mod (pe_callTy c_int1 rfl B.b_int (by decide +kernel) (pa_cons (pe_op op_mul (pv 4) pe_int) pa_nil)) pe_int))
      (pss_cons (ps_set (i := 4) sc__law_draw.nd rfl (.inl rfl) (pe_op op_mod (pe_callTy c_int1 rfl B.b_int (by decide +kernel) (pa_cons (pe_op op_mul (pv 4) (pe_op op_add (pe_op op_fdiv (pv 4) pe_int) pe_int)) pa_nil)) pe_int))
      (pss_cons (ps_set (i := 4) sc__law_draw.nd rfl (.inl rfl) (pe_op op_mod (pe_callTy c_int1 rfl B.b_int (by decide +kernel) (pa_cons (pe_op op_mul (pv 4) (pe_op op_add (pe_op op_fdiv (pv 4) pe_int) pe_int)) pa_nil)) pe_int))
      (pss_one (ps_ret (pe_op op_mod (pe_callTy c_int1 rfl B.b_int (by decide +kernel) (pa_cons (pe_op op_fdiv (pv 4) pe_int) pa_nil)) (pv 1)))))))))))), st_eq (σ' := [some _, some _, none, none, none]) rfl ?_⟩
  walk_at "go"
  refine i_ixqL (sqL hp) rfl ?_
  walk_at "go"
  refine i_setL hp rfl ?_
  walk_at "go"
  generalize eH : upd H p _ = H1
  have hp1 : H1 p = some (.lst [.ref c, .ref g0, .int (n + 1)]) := by rw [← eH]; exact upd_same
  have hc1 : H1 c = some (.lst (cs.map V.int)) := by rw [← eH, upd_ne hP.pc.symm]; exact hc
  have hg1 : H1 g0 = some (.lst (gs.map V.int)) := by rw [← eH, upd_ne hP.pg.symm]; exact hg
  have k1 : Kp [p, g0] H H1 := by rw [← eH]; exact Kp.refl.at (by simp)
  have hP1 : Purse H1 p c g0 := ⟨⟨cs, gs, n + 1, hp1, hc1, hg1, hne, hl, by omega, hpos⟩, cg⟩
  have hlen : 0 < cs.length := List.length_pos_iff.mpr hne
  refine i_ixqL (sqL hp1) rfl ?_
  walk_at "go"
  refine i_ixqL (sqL hp1) rfl ?_
  walk_at "go"
  refine i_len (.inl (sqL hc1)) ?_
  refine i_I (by rw [List.length_map]; omega) ?_
  walk_at "go"
  rw [List.length_map]
  obtain ⟨j, hj, ej⟩ : ∃ j : Nat, j < cs.length ∧ (n + 1) % (cs.length : Int) = (j : Int) := by
    have a1 := Int.emod_nonneg (n + 1) (b := (cs.length : Int)) (by omega)
    have a2 := Int.emod_lt_of_pos (n + 1) (b := (cs.length : Int)) (by omega)
    exact ⟨((n + 1) % (cs.length : Int)).toNat, by omega, by omega⟩
  rw [ej]
  have hj2 : j < gs.length := by omega
  refine i_ixqL (sqL hp1) rfl ?_
  walk_at "go"
  refine i_ixqL (sqL hg1) (atI_nat (get_int hj2)) ?_
  walk_at "go"
  refine i_d (fun h3 => ?_) (fun h3 => ?_)
  · walk_at "go"
    refine i_I (cdivw h1 h2) ?_
    walk_at "go"
    refine i_ixqL (sqL hp1) rfl ?_
    walk_at "go"
    refine i_setL hg1 (j := j) (by unfold ixN; rw [if_pos (by omega), if_pos (by rw [List.length_map]; omega), Int.toNat_natCast]) ?_
    walk_at "go"
    refine q _ _ (Int.emod_nonneg _ (by omega)) (Int.emod_lt_of_pos _ (by omega)) (k1.at (by simp)) ⟨⟨cs, gs.set j (gs[j] / many), n + 1, ?_, ?_, ?_, hne, by rw [List.length_set]; exact hl, by omega, fun x hx => ?_⟩, cg⟩
    · rw [upd_ne hP.pg]; exact hp1
    · rw [upd_ne cg]; exact hc1
    · rw [upd_same, List.map_set]
    · rcases List.mem_or_eq_of_mem_set hx with h | h
      · exact hpos x h
      · rw [h]; exact Int.ediv_nonneg (by omega) (by omega)
  · walk_at "go"
    refine i_ixqL (sqL hp1) rfl ?_
    walk_at "go"
    refine i_ixqL (sqL hc1) (atI_nat (get_int hj)) ?_
    walk_at "go"
    refine i_ixqL (sqL hp1) rfl ?_
    walk_at "go"
    generalize eN : (cs[j] % 2147483629 + 7919 * (n + 1) + 1) * 48271 % 2147483647 = N1
    have n1 : 0 ≤ N1 ∧ N1 < 2147483647 := by rw [← eN]; exact ⟨Int.emod_nonneg _ (by decide), Int.emod_lt_of_pos _ (by decide)⟩
    refine i_I (.inl (by omega)) ?_
    walk_at "go"
    generalize eM : N1 * (N1 / 1009 + 69621) % 2147483647 = N2
    have n2 : 0 ≤ N2 ∧ N2 < 2147483647 := by rw [← eM]; exact ⟨Int.emod_nonneg _ (by decide), Int.emod_lt_of_pos _ (by decide)⟩
    refine i_I (.inl (by omega)) ?_
    walk_at "go"
    exact q _ _ (Int.emod_nonneg _ (by omega)) (Int.emod_lt_of_pos _ (by omega)) k1 hP1
abbrev spPurse (K : PySem.W.Frag) : Sp := sp1 fun x H Q _ => ∃ (a : Addr) (ns : List Int), x = .ref a ∧ SqL K H a (ns.map V.int) ∧ ∀ (H' : Hp) (p c g : Addr), Same H H' → H p = none → H c = none → H g = none → Purse H' p c g → Q (.ref p) H'
theorem ok__law_purse {f : Addr} {fd : FuncData} {k : Nat} (F : L2.Fun K "_law_purse" "_law_purse" s__law_purse f fd) (g : mg "_law_purse" = some (.ref f)) (B : Bs mg)  : C8.Cal P w K mg base (k + 1) "_law_purse" (spPurse K) [] := by
  refine cal1 F g sc__law_purse (F.binds (ps := P__law_purse) fun _ _ _ _ _ _ us hl => match us, hl with | [_], _ => rfl) rfl fun cdv A outer s H Q E x hr h => ?_
  obtain ⟨a, ns, rfl, hS, q⟩ := h
  refine ⟨_, (pss_cons (ps_setLc (i := 1) (own := [("_law_cell", 4)]) rfl sc__law_purse.nd rfl rfl (sw_true rfl rfl rfl (by decide +kernel)) (k_pseq K (pe_slice (k_sl_list K) (pv 0) po_none (po_some pe_int))) (blkOk_by (own := [("_law_cell", 4)]) (N := N__law_purse) (sc := defScope s__law_purse) (by decide +kernel))
        (fun _ _ _ _ _ => (pg_name (i := 4) sc__law_purse.nd rfl (.inl rfl))) (fun _ _ _ _ _ => pts_nil) (fun _ _ _ _ _ => (pe_callTy c_int1 rfl B.b_int (by decide +kernel) (pa_cons (pv 4) pa_nil))))
      (C8.pss_cut (ps_if (pt_cmpR op_eq (pe_callB (k_len K) rfl B.b_len (by decide +kernel) (pa_cons (pv 1) pa_nil)) pe_int (by rfl)) (pss_one (ps_set (i := 1) sc__law_purse.nd rfl (.inl rfl) (pe_lst (pa_cons pe_int pa_nil)))) pss_nil)
      (pss_cons (ps_setLc (i := 2) (own := [("_law_cell", 4)]) rfl sc__law_purse.nd rfl rfl (sw_true rfl rfl rfl (by decide +kernel)) (k_pseq K (pv 1)) (blkOk_by (own := [("_law_cell", 4)]) (N := N__law_purse) (sc := defScope s__law_purse) (by decide +kernel))
        (fun _ _ _ _ _ => (pg_name (i := 4) sc__law_purse.nd rfl (.inl rfl))) (fun _ _ _ _ _ => pts_nil) (fun _ _ _ _ _ => (pe_callB c_abs rfl B.b_abs (by decide +kernel) (pa_cons (pv 4) pa_nil))))
      (pss_cons (ps_for PassesOwn.never rfl (pi_range1 rfl B.b_range (pa_cons (pe_callB (k_len K) rfl B.b_len (by decide +kernel) (pa_cons (pv 2) pa_nil)) pa_nil)) (pg_name (i := 3) sc__law_purse.nd rfl (.inl rfl))
      (pss_one (ps_if (pt_cmpR op_lt (pe_ix (k_ix_seq K) (pv 2) (pv 3) (fun _ _ => rfl)) (pe_op op_pow pe_int pe_int) (by rfl)) (pss_one (ps_asg pe_int (pg_sub (pv 2) (pv 3) set_list))) pss_nil)))
      (pss_one (ps_ret (pe_lst (pa_cons (pv 1) (pa_cons (pv 2) (pa_cons pe_int pa_nil)))))))))), st_eq (σ' := [some _, none, none, none, none]) rfl ?_⟩
  walk_at "go"
  refine i_slL hS fun p1 n1 => ?_
  rw [show cutV (ns.map V.int) none (some 63) = (ns.map V.int).take 63 from cut_to _ 63, ← List.map_take]
  have s1 : Same H (upd H p1 (.lst ((ns.take 63).map V.int))) := Same.new n1
  generalize eH : upd H p1 _ = H1 at s1 ⊢
  have hp1 : H1 p1 = some (.lst ((ns.take 63).map V.int)) := by rw [← eH]; exact upd_same
  refine l_seq (.inl (sqL hp1)) (fun D i H' => Same H1 H' ∧ H' D = some (.lst (((ns.take 63).take i).map V.int))) (fun D hD => ⟨Same.new hD, upd_same⟩) (fun D i H' hD hi p o => p.1 _ _) ?_ ?_
  · rintro D i x H' hD hx ⟨s2, hA⟩
    obtain ⟨n, hn, rfl⟩ := map_get hx
    walk_at "go"
    refine ⟨_, hA, szl (by simp; omega), s2.loc hD, ?_⟩
    rw [upd_same, take_succ' hn, List.map_append]
    rfl
  · rintro C H2 hC ⟨s2, hc⟩
    rw [List.length_map, List.take_length] at hc
    walk_at "go"
    refine ⟨fun σ' H' => ∃ (C : Addr) (cs : List Int), σ' = [some (.ref a), some (.ref C), none, none, none] ∧ cs ≠ [] ∧ cs.length ≤ 63 ∧ Same H H' ∧ H C = none ∧ H' C = some (.lst (cs.map V.int)), ?_, ?_⟩
    · walk_at "go"
      refine i_len (.inl (sqL hc)) ?_
      walk_at "go"
      refine i_d (fun h1 => ?_) (fun h1 => ?_)
      · walk_at "go"
        refine i_new (by simp) fun p np => ?_
        exact ⟨p, [0], rfl, by simp, by simp, (s1.trans s2).trans (Same.new np), (s1.trans s2).free np, upd_same⟩
      · walk_at "go"
        refine ⟨C, ns.take 63, rfl, fun e => h1 (by rw [e]; rfl), by simp; omega, s1.trans s2, s1.free hC, hc⟩
    · rintro σ' H' ⟨C, cs, rfl, hne, hle, s3, nC, hc⟩
      clear hS hp1 s1 s2 eH
      walk_at "go"
      refine l_seq (.inl (sqL hc)) (fun D i H'' => Same H' H'' ∧ H'' D = some (.lst (((cs.take i).map fun x => if x < 0 then -x else x).map V.int))) (fun D hD => ⟨Same.new hD, upd_same⟩) (fun D i H' hD hi p o => p.1 _ _) ?_ ?_
      · rintro D i x H' hD hx ⟨s2, hA⟩
        obtain ⟨n, hn, rfl⟩ := map_get hx
        walk_at "go"
        refine ⟨_, hA, szl (by simp; omega), s2.loc hD, ?_⟩
        rw [upd_same, take_succ' hn, List.map_append, List.map_append]
        rfl
      · rintro G H4 hG ⟨s4, hg⟩
        rw [List.length_map, List.take_length] at hg
        walk_at "go"
        refine i_len (.inl (sqL hg)) ?_
        have nG : H G = none := s3.free hG
        have nGC : C ≠ G := ne_of_none hc hG
        refine f_range (by simp; omega) (by omega) (fun i σ H' => ∃ (gs : List Int) (y : Option V), σ = [some (.ref a), some (.ref C), some (.ref G), y, none] ∧ H' G = some (.lst (gs.map V.int)) ∧ H' C = some (.lst (cs.map V.int)) ∧ gs.length = cs.length ∧ (∀ x ∈ gs, 0 ≤ x) ∧ Same H H')
          ⟨_, none, rfl, hg, s4 _ _ hc, by simp, ?_, s3.trans s4⟩ ?_ ?_
        · intro x hx
          obtain ⟨y, _, rfl⟩ := List.mem_map.mp hx
          show 0 ≤ if y < 0 then -y else y
          split <;> omega
        · rintro i σ H' hi ⟨gs, y, rfl, hg, hc, hl, hpos, sm⟩
          have hi2 : i < gs.length := by simp at hi; omega
          walk_at "go"
          refine i_ixqL (sqL hg) (atI_nat (get_int hi2)) ?_
          walk_at "go"
          refine i_d (fun h1 => ?_) (fun h1 => ?_)
          · walk_at "go"
            refine i_setL hg (j := i) (by unfold ixN; rw [if_pos (by omega), if_pos (by rw [List.length_map]; omega), Int.toNat_natCast]) ?_
            refine ⟨gs.set i 0, _, rfl, by rw [upd_same, List.map_set], by rw [upd_ne nGC]; exact hc, by rw [List.length_set]; exact hl, fun x hx => ?_, sm.loc nG⟩
            rcases List.mem_or_eq_of_mem_set hx with h | h
            · exact hpos x h
            · omega
          · walk_at "go"
            exact ⟨gs, _, rfl, hg, hc, hl, hpos, sm⟩
        · rintro σ H' ⟨gs, y, rfl, hg, hc, hl, hpos, sm⟩
          walk_at "go"
          refine i_new (by simp) fun p np => ?_
          exact q _ p C G (sm.trans (Same.new np)) (sm.free np) nC nG ⟨⟨cs, gs, 0, upd_same, (Same.new np) _ _ hc, (Same.new np) _ _ hg, hne, hl, by omega, hpos⟩, nGC⟩

/-! ### names drawn -/
theorem str_len (z : Str) : z.length = z.cps.toList.length := by simp [Str.length]
theorem add_tl (x y : Str) : (x ++ y).cps.toList = x.cps.toList ++ y.cps.toList := TL.tl_append x y
theorem letters_get {v : Int} (h0 : 0 ≤ v) (h1 : v < 26) : ∃ c, atI letters v = some c ∧ c ∈ letters := by
  have hl : letters.length = 26 := by decide +kernel
  obtain ⟨n, rfl⟩ : ∃ n : Nat, v = (n : Int) := ⟨v.toNat, by omega⟩
  have hn : n < letters.length := by omega
  exact ⟨letters[n], atI_nat (List.getElem?_eq_getElem hn), List.getElem_mem hn⟩
abbrev spNm : Sp := sp1 fun x H Q _ => ∃ (p c g : Addr), x = .ref p ∧ Purse H p c g ∧ ∀ (H' : Hp) (z : Str), Kp [p, g] H H' → Purse H' p c g → isName z = true → Q (.str z) H'
theorem ok__law_name {f : Addr} {fd : FuncData} {k : Nat} (F : L2.Fun K "_law_name" "_law_name" s__law_name f fd) (g : mg "_law_name" = some (.ref f)) (B : Bs mg) (c__law_draw : C8.Cal P w K mg base k "_law_draw" (spDraw) []) : C8.Cal P w K mg base (k + 1) "_law_name" (spNm) [] := by
  refine cal1 F g sc__law_name (F.binds (ps := P__law_name) fun _ _ _ _ _ _ us hl => match us, hl with | [_], _ => rfl) rfl fun cdv A outer s H Q E x hr h => ?_
  obtain ⟨p, c, g0, rfl, hP, q⟩ := h
  refine ⟨_, (pss_cons (ps_set (i := 1) sc__law_name.nd rfl (.inl rfl) pe_str)
      (pss_cons (ps_for PassesOwn.never rfl (pi_range1 rfl B.b_range (pa_cons (pe_op op_add pe_int (C8.pe_c c__law_draw hr (by omega) rfl (pa_cons (pv 0) (pa_cons pe_int pa_nil)))) pa_nil)) (pg_name (i := 2) sc__law_name.nd rfl (.inl rfl))
      (pss_one (ps_set (i := 1) sc__law_name.nd rfl (.inl rfl) (pe_op o_add_str (pv 1) (pe_ix (k_ix_seq K) pe_str (C8.pe_c c__law_draw hr (by omega) rfl (pa_cons (pv 0) (pa_cons pe_int pa_nil))) (fun _ _ => rfl))))))
      (pss_one (ps_ret (pv 1))))), st_eq (σ' := [some _, none, none]) rfl ?_⟩
  walk_at "go"
  refine ⟨p, c, g0, 8, rfl, rfl, by decide, by decide, hP, fun v H1 v0 v1 k1 hP1 => ?_⟩
  walk_at "go"
  refine f_range (by omega) (by omega) (fun i σ H' => ∃ (z : Str) (y : Option V), σ = [some (.ref p), some (.str z), y] ∧ Kp [p, g0] H H' ∧ Purse H' p c g0 ∧ z.cps.toList.length = i ∧ ∀ x ∈ z.cps.toList, x ∈ letters)
    ⟨_, none, rfl, k1, hP1, by decide, by decide⟩ ?_ ?_
  · rintro i σ H' hi ⟨z, y, rfl, k2, hP2, hl, ha⟩
    walk_at "go"
    refine ⟨p, c, g0, 26, rfl, rfl, by decide, by decide, hP2, fun u H3 u0 u1 k3 hP3 => ?_⟩
    obtain ⟨ch, hc, hm⟩ := letters_get u0 u1
    walk_at "go"
    refine i_ixqS (by decide +kernel) hc ?_
    refine i_addS (x := z) (y := ⟨#[ch]⟩) (sz ?_) ?_
    · rw [str_len, hl]
      show i + 1 ≤ _
      omega
    walk_at "go"
    refine ⟨_, _, rfl, k2.trans k3, hP3, ?_, ?_⟩
    · rw [add_tl, List.length_append, hl]; rfl
    · intro x hx
      rw [add_tl] at hx
      rcases List.mem_append.mp hx with h | h
      · exact ha x h
      · simp at h
        rw [h]; exact hm
  · rintro σ H' ⟨z, y, rfl, k2, hP2, hl, ha⟩
    walk_at "go"
    refine q _ z k2 hP2 ?_
    unfold isName
    rw [str_len, hl, decide_eq_true (by omega), decide_eq_true (by omega)]
    simp only [Bool.true_and]
    exact List.all_eq_true.mpr fun c hc => decide_eq_true (ha c hc)
theorem nodup_le {α : Type} [DecidableEq α] : ∀ {xs ys : List α}, xs.Nodup → (∀ x ∈ xs, x ∈ ys) → xs.length ≤ ys.length
  | [], _, _, _ => Nat.zero_le _
  | x :: xs, ys, nd, h => by
    obtain ⟨hx, nd'⟩ := List.nodup_cons.mp nd
    have hm := h x (by simp)
    have ih := nodup_le (xs := xs) (ys := ys.erase x) nd' fun y hy => (List.mem_erase_of_ne (fun e : y = x => hx (by rw [← e]; exact hy))).mpr (h y (by simp [hy]))
    rw [List.length_erase_of_mem hm] at ih
    have : 0 < ys.length := List.length_pos_of_mem hm
    simp only [List.length_cons]
    omega
theorem inV_str (z : Str) (ns : List Str) : inV (.str z) (ns.map V.str) = decide (z ∈ ns) := by
  unfold inV
  rw [List.any_map]
  by_cases h : z ∈ ns
  · rw [decide_eq_true h, List.any_eq_true]
    exact ⟨z, h, by simp [eqV]⟩
  · rw [decide_eq_false h, List.any_eq_false]
    intro y hy
    simp only [Function.comp, eqV]
    intro e
    exact h (eq_of_beq e ▸ hy)
theorem flat_strs (ns : List Str) : (ns.map V.str).all flatV = true := by
  rw [List.all_map, List.all_eq_true]
  intro x _
  rfl
def plain : List Str := [Str.ofString "a", Str.ofString "b", Str.ofString "c", Str.ofString "d", Str.ofString "e", Str.ofString "f", Str.ofString "g", Str.ofString "h", Str.ofString "i", Str.ofString "j"]
theorem plain_name : ∀ z ∈ plain, isName z = true := by decide +kernel
theorem plain_nodup : plain.Nodup := by decide +kernel
theorem plain_get {v : Int} (h0 : 0 ≤ v) (h1 : v < 10) : ∃ z, atI (plain.map V.str) v = some (.str z) ∧ z ∈ plain := by
  have hl : plain.length = 10 := rfl
  obtain ⟨n, rfl⟩ : ∃ n : Nat, v = (n : Int) := ⟨v.toNat, by omega⟩
  have hn : n < plain.length := by omega
  exact ⟨plain[n], atI_nat (by rw [List.getElem?_map, List.getElem?_eq_getElem hn]; rfl), List.getElem_mem hn⟩
theorem plain_free {ns : List Str} (h : ns.length < 10) : ∃ z r, plain.filter (fun z => !decide (z ∈ ns)) = z :: r ∧ z ∈ plain ∧ z ∉ ns := by
  cases e : plain.filter (fun z => !decide (z ∈ ns)) with
  | nil =>
    have := nodup_le (ys := ns) plain_nodup fun x hx => by
      have := List.filter_eq_nil_iff.mp e x hx
      simpa using this
    have hl : plain.length = 10 := rfl
    omega
  | cons z r =>
    have hm : z ∈ plain.filter (fun z => !decide (z ∈ ns)) := by rw [e]; simp
    have := List.mem_filter.mp hm
    exact ⟨z, r, rfl, this.1, by simpa using this.2⟩
/-- some different names, drawn -/
structure NamesOk (ns : List Str) : Prop where
  nd : ns.Nodup
  nm : ∀ z ∈ ns, isName z = true
theorem NamesOk.snoc {ns : List Str} {z : Str} (h : NamesOk ns) (h1 : z ∉ ns) (h2 : isName z = true) : NamesOk (ns ++ [z]) := by
  refine ⟨List.nodup_append.mpr ⟨h.nd, by simp, ?_⟩, fun y hy => ?_⟩
  · intro a ha b hb
    simp at hb
    subst hb
    exact fun e => h1 (e ▸ ha)
  · rcases List.mem_append.mp hy with h3 | h3
    · exact h.nm y h3
    · simp at h3
      rw [h3]; exact h2
abbrev spNames : Sp := sp2 fun x y H Q _ => ∃ (p c g : Addr) (many : Int), x = .ref p ∧ y = .int many ∧ 0 ≤ many ∧ many ≤ 10 ∧ Purse H p c g ∧
  ∀ (H' : Hp) (l : Addr) (ns : List Str), Kp [p, g] H H' → Purse H' p c g → H l = none → H' l = some (.lst (ns.map V.str)) → (ns.length : Int) = many → NamesOk ns → Q (.ref l) H'
theorem ok__law_names {f : Addr} {fd : FuncData} {k : Nat} (F : L2.Fun K "_law_names" "_law_names" s__law_names f fd) (g : mg "_law_names" = some (.ref f)) (B : Bs mg) (c__law_draw : C8.Cal P w K mg base k "_law_draw" (spDraw) []) (c__law_name : C8.Cal P w K mg base k "_law_name" (spNm) []) : C8.Cal P w K mg base (k + 1) "_law_names" (spNames) [] := by
  refine cal2 F g sc__law_names (F.binds (ps := P__law_names) fun _ _ _ _ _ _ us hl => match us, hl with | [_, _], _ => rfl) rfl fun cdv A outer s H Q E x y hr h => ?_
  obtain ⟨p, c, g0, many, rfl, rfl, m0, m1, hP, q⟩ := h
  refine ⟨_, (pss_cons (ps_set (i := 2) sc__law_names.nd rfl (.inl rfl) (pe_lst (pa_cons pe_str (pa_cons pe_str (pa_cons pe_str (pa_cons pe_str (pa_cons pe_str (pa_cons pe_str (pa_cons pe_str (pa_cons pe_str (pa_cons pe_str (pa_cons pe_str pa_nil))))))))))))
      (pss_cons (ps_set (i := 3) sc__law_names.nd rfl (.inl rfl) (pe_cmpR op_eq (C8.pe_c c__law_draw hr (by omega) rfl (pa_cons (pv 0) (pa_cons pe_int pa_nil))) pe_int (by rfl)))
      (pss_cons (ps_set (i := 4) sc__law_names.nd rfl (.inr rfl) (pe_lst pa_nil))
      (pss_cons (ps_for PassesOwn.never rfl (pi_range1 rfl B.b_range (pa_cons (pv 1) pa_nil)) (pg_name (i := 5) sc__law_names.nd rfl (.inl rfl))
      (pss_cons (ps_set (i := 6) sc__law_names.nd rfl (.inl rfl) (pe_ix (k_ix_seq K) (pv 2) (C8.pe_c c__law_draw hr (by omega) rfl (pa_cons (pv 0) (pa_cons pe_int pa_nil))) (fun _ _ => rfl)))
      (C8.pss_cut (ps_if (pt_val (pv 3)) (pss_one (ps_set (i := 6) sc__law_names.nd rfl (.inl rfl) (C8.pe_c c__law_name hr (by omega) rfl (pa_cons (pv 0) pa_nil)))) pss_nil)
      (C8.pss_cut (ps_if (pt_cmpR (k_in_seq K) (pv 6) (pv 4) (by rfl)) (pss_one (ps_set (i := 6) sc__law_names.nd rfl (.inl rfl) (pe_ix (k_ix_seq K) (pe_lc (own := [("_law_each", 7)]) rfl sc__law_names.nd (k_pseq K (pv 2)) (blkOk_by (own := [("_law_each", 7)]) (N := N__law_names) (sc := defScope s__law_names) (by decide +kernel))
        (fun _ _ _ _ _ => (pg_name (i := 7) sc__law_names.nd rfl (.inl rfl))) (fun _ _ _ _ _ => pts_one (pt_cmpR (k_notIn_seq K) (pv 7) (pv 4) (by rfl))) (fun _ _ _ _ _ => (pv 7))) pe_int (fun _ _ => rfl)))) pss_nil)
      (pss_one (ps_expr (k_bm K PySem.F.plainAttrs_list PySem.F.slot_list_append PySem.F.type_list_append mt_append (pv 4) (pa_cons (pv 6) pa_nil))))))))
      (pss_one (ps_ret (pv 4))))))), st_eq (σ' := [some _, some _, none, none, none, none, none, none]) rfl ?_⟩
  walk_at "go"
  refine i_new (by simp) fun Pl nPl => ?_
  have s1 : Same H (upd H Pl (.lst (plain.map V.str))) := Same.new nPl
  change Same H (upd H Pl (.lst [V.str (Str.ofString "a"), _, _, _, _, _, _, _, _, _])) at s1
  generalize eH : upd H Pl _ = H1 at s1 ⊢
  have hPl1 : H1 Pl = some (.lst (plain.map V.str)) := by rw [← eH]; exact upd_same
  have hP1 := hP.same s1
  walk_at "go"
  refine ⟨p, c, g0, 3, rfl, rfl, by decide, by decide, hP1, fun v H2 v0 v1 k2 hP2 => ?_⟩
  walk_at "go"
  refine i_new (by simp) fun L nL => ?_
  walk_at "go"
  have oPl : Pl ∉ [p, g0] := hP.out nPl
  have oL : L ∉ [p, g0] := hP2.out nL
  have hPl2 : H2 Pl = some (.lst (plain.map V.str)) := k2 _ _ oPl hPl1
  have nLP : L ≠ Pl := fun e => by rw [e, hPl2] at nL; cases nL
  have nLp : L ≠ p := fun e => oL (by simp [e])
  have nLg : L ≠ g0 := fun e => oL (by simp [e])
  have nLc : L ≠ c := fun e => (hP2.kp (a := L)).2.1 (by rw [← e]; exact nL)
  have k20 : Kp [p, g0] H H2 := (Kp.same s1).trans k2
  have nL0 : H L = none := by
    cases e : H L with
    | none => rfl
    | some o => rw [k20 L o oL e] at nL; cases nL
  refine f_range (by omega) (by omega) (fun i σ H' => ∃ (ns : List Str) (y5 y6 : Option V), σ = [some (.ref p), some (.int many), some (.ref Pl), some (.bl (decide (V.int v = V.int 0))), some (.ref L), y5, y6, none] ∧ Kp [p, g0] H H' ∧ Purse H' p c g0 ∧ H' L = some (.lst (ns.map V.str)) ∧ H' Pl = some (.lst (plain.map V.str)) ∧ ns.length = i ∧ NamesOk ns)
    ⟨[], none, none, rfl, k20.new nL, hP2.same (Same.new nL), upd_same, (Same.new nL) _ _ hPl2, rfl, ⟨by simp, by simp⟩⟩ ?_ ?_
  · rintro i σ H' hi ⟨ns, y5, y6, rfl, k3, hP3, hL3, hPl3, hl, hN⟩
    walk_at "go"
    refine ⟨p, c, g0, 10, rfl, rfl, by decide, by decide, hP3, fun u H4 u0 u1 k4 hP4 => ?_⟩
    obtain ⟨z, hz, hzm⟩ := plain_get u0 u1
    have hL4 := k4 _ _ oL hL3
    have hPl4 := k4 _ _ oPl hPl3
    refine i_ixqL (sqL hPl4) hz ?_
    walk_at "go"
    refine ⟨fun σ' H' => ∃ z, σ' = [some (.ref p), some (.int many), some (.ref Pl), some (.bl (decide (V.int v = V.int 0))), some (.ref L), some (.int (i : Nat)), some (.str z), none] ∧ Kp [p, g0] H H' ∧ Purse H' p c g0 ∧ H' L = some (.lst (ns.map V.str)) ∧ H' Pl = some (.lst (plain.map V.str)) ∧ isName z = true, ?_, ?_⟩
    · walk_at "go"
      refine i_b (fun _ => ?_) (fun _ => ?_)
      · walk_at "go"
        refine ⟨p, c, g0, rfl, hP4, fun H5 z' k5 hP5 hz' => ?_⟩
        walk_at "go"
        exact ⟨z', rfl, (k3.trans k4).trans k5, hP5, k5 _ _ oL hL4, k5 _ _ oPl hPl4, hz'⟩
      · walk_at "go"
        exact ⟨z, rfl, k3.trans k4, hP4, hL4, hPl4, plain_name z hzm⟩
    · clear hz hzm
      rintro σ' H5 ⟨z, rfl, k5, hP5, hL5, hPl5, hz⟩
      refine ⟨fun σ' H' => ∃ z, σ' = [some (.ref p), some (.int many), some (.ref Pl), some (.bl (decide (V.int v = V.int 0))), some (.ref L), some (.int (i : Nat)), some (.str z), none] ∧ Kp [p, g0] H H' ∧ Purse H' p c g0 ∧ H' L = some (.lst (ns.map V.str)) ∧ H' Pl = some (.lst (plain.map V.str)) ∧ isName z = true ∧ z ∉ ns, ?_, ?_⟩
      · walk_at "go"
        refine i_in (.inl (sqL hL5)) rfl (flat_strs ns) ?_
        rw [inV_str]
        walk_at "go"
        refine i_d (fun h1 => ?_) (fun h1 => ?_)
        · walk_at "go"
          refine l_seq (.inl (sqL hPl5)) (fun D i H' => Same H5 H' ∧ H' D = some (.lst (((plain.take i).filter (fun z => !decide (z ∈ ns))).map V.str))) (fun D hD => ⟨Same.new hD, upd_same⟩) (fun D i H' hD hi p o => p.1 _ _) ?_ ?_
          · rintro D j x H' hD hx ⟨s2, hA⟩
            obtain ⟨n, hn, rfl⟩ := map_get hx
            walk_at "go"
            refine i_notIn (.inl (sqL (s2 _ _ hL5))) rfl (flat_strs ns) ?_
            rw [inV_str]
            walk_at "go"
            refine i_n (fun h2 => ?_) (fun h2 => ?_)
            · walk_at "go"
              refine ⟨_, hA, szl ?_, s2.loc hD, ?_⟩
              · rw [List.length_map]
                refine Nat.le_trans (List.length_filter_le _ _) ?_
                rw [List.length_take]
                have : plain.length = 10 := rfl
                omega
              · rw [upd_same, take_succ' hn, List.filter_append, List.map_append]
                simp [h2]
            · refine ⟨s2, ?_⟩
              rw [hA, take_succ' hn, List.filter_append, List.map_append]
              simp [h2]
          · rintro D H6 hD ⟨s2, hA⟩
            rw [List.length_map, List.take_length] at hA
            obtain ⟨z', r, e, hm, hf⟩ := plain_free (ns := ns) (by omega)
            rw [e] at hA
            walk_at "go"
            refine i_ixqL (sqL hA) (v := .str z') (atI_nat (j := 0) rfl) ?_
            walk_at "go"
            exact ⟨z', rfl, k5.then s2, hP5.same s2, s2 _ _ hL5, s2 _ _ hPl5, plain_name z' hm, hf⟩
        · walk_at "go"
          exact ⟨z, rfl, k5, hP5, hL5, hPl5, hz, h1⟩
      · clear hz
        rintro σ' H6 ⟨z, rfl, k6, hP6, hL6, hPl6, hz, hf⟩
        walk_at "go"
        refine i_tyL hL6 ?_
        walk_at "go"
        refine i_append hL6 (szl (by rw [List.length_map]; omega)) ?_
        refine ⟨ns ++ [z], _, _, rfl, k6.loc nL0, hP6.upd nLp nLc nLg, by rw [upd_same, List.map_append]; rfl, by rw [upd_ne nLP.symm]; exact hPl6, by rw [List.length_append, hl]; rfl, hN.snoc hf hz⟩
  · rintro σ H' ⟨ns, y5, y6, rfl, k3, hP3, hL3, hPl3, hl, hN⟩
    walk_at "go"
    exact q _ L ns k3 hP3 nL0 hL3 (by omega) hN

/-! ### a script of edits, drawn -/
theorem EdS.kt {H H' : Hp} {x : V} {ss : List Str} (e : KT H H') (h : EdS K H x ss) : EdS K H' x ss := by
  obtain ⟨a, rfl, hS, hz, hg⟩ := h
  exact ⟨a, rfl, e.sqT hS, hz, hg⟩
theorem name_len {z : Str} (h : isName z = true) : z.length ≤ 8 := by
  unfold isName at h
  simp only [Bool.and_eq_true, decide_eq_true_eq] at h
  exact h.1.2
theorem ed2 {w t : Str} (hw : w = Str.ofString "keep" ∨ w = Str.ofString "drop" ∨ w = Str.ofString "put") (ht : isName t = true) : edOf [some w, some t] = true := by
  rcases hw with rfl | rfl | rfl <;> simp [edOf, nmO, ht]
theorem ed3 {t u : Str} (ht : isName t = true) (hu : isName u = true) (h : t ≠ u) : edOf [some (Str.ofString "turn"), some t, some u] = true := by
  simp [edOf, nmO, ht, hu, h]
theorem names_get {ns : List Str} {v : Int} (h0 : 0 ≤ v) (h1 : v < (ns.length : Int)) : ∃ z, atI (ns.map V.str) v = some (.str z) ∧ z ∈ ns := by
  obtain ⟨n, rfl⟩ : ∃ n : Nat, v = (n : Int) := ⟨v.toNat, by omega⟩
  have hn : n < ns.length := by omega
  exact ⟨ns[n], atI_nat (by rw [List.getElem?_map, List.getElem?_eq_getElem hn]; rfl), List.getElem_mem hn⟩
abbrev spScript (K : PySem.W.Frag) : Sp := sp3 fun x y z H Q _ => ∃ (p c g l : Addr) (ns : List Str) (most : Int), x = .ref p ∧ y = .ref l ∧ z = .int most ∧ 0 ≤ most ∧ most ≤ 4000 ∧ Purse H p c g ∧ H l = some (.lst (ns.map V.str)) ∧ l ∉ [p, g] ∧
  ns ≠ [] ∧ NamesOk ns ∧ ns.length ≤ 1000 ∧ ∀ (H' : Hp) (r : Addr) (xs : List V) (es : List (List Str)), Kp [p, g] H H' → Purse H' p c g → H r = none → H' r = some (.lst xs) → Paired (EdS K H') xs es → (es.length : Int) ≤ most → Q (.ref r) H'
/-- between two turns: R holds the edits so far -/
def ScI (K : PySem.W.Frag) (H : Hp) (p c g0 l R : Addr) (ns : List Str) (most : Int) (i : Nat) (σ : L2.St) (H' : Hp) : Prop :=
  ∃ (xs : List V) (es : List (List Str)) (y4 y5 y6 y7 : Option V), σ = [some (.ref p), some (.ref l), some (.int most), some (.ref R), y4, y5, y6, y7, none] ∧ Kp [p, g0] H H' ∧ Purse H' p c g0 ∧ H' R = some (.lst xs) ∧ H' l = some (.lst (ns.map V.str)) ∧ Paired (EdS K H') xs es ∧ es.length = i
theorem paired_snoc {α β : Type} {R : α → β → Prop} {x : α} {y : β} (r : R x y) : ∀ {xs : List α} {ys : List β}, Paired R xs ys → Paired R (xs ++ [x]) (ys ++ [y])
  | _, _, .nil => .cons r .nil
  | _, _, .cons q t => .cons q (paired_snoc r t)
theorem ok__law_script {f : Addr} {fd : FuncData} {k : Nat} (F : L2.Fun K "_law_script" "_law_script" s__law_script f fd) (g : mg "_law_script" = some (.ref f)) (B : Bs mg) (c__law_draw : C8.Cal P w K mg base k "_law_draw" (spDraw) []) : C8.Cal P w K mg base (k + 1) "_law_script" (spScript K) [] := by
  refine cal3 F g sc__law_script (F.binds (ps := P__law_script) fun _ _ _ _ _ _ us hl => match us, hl with | [_, _, _], _ => rfl) rfl fun cdv A outer s H Q E x y z hr h => ?_
  obtain ⟨p, c, g0, l, ns, most, rfl, rfl, rfl, m0, m1, hP, hl, ol, hne, hN, hn, q⟩ := h
  refine ⟨_, (pss_cons (ps_set (i := 3) sc__law_script.nd rfl (.inl rfl) (pe_lst pa_nil))
      (pss_cons (ps_for PassesOwn.never rfl (pi_range1 rfl B.b_range (pa_cons (C8.pe_c c__law_draw hr (by omega) rfl (pa_cons (pv 0) (pa_cons (pe_op op_add (pv 2) pe_int) pa_nil))) pa_nil)) (pg_name (i := 4) sc__law_script.nd rfl (.inl rfl))
      (pss_cons (ps_set (i := 5) sc__law_script.nd rfl (.inl rfl) (C8.pe_c c__law_draw hr (by omega) rfl (pa_cons (pv 0) (pa_cons pe_int pa_nil))))
      (pss_cons (ps_set (i := 6) sc__law_script.nd rfl (.inr rfl) (pe_ix (k_ix_seq K) (pv 1) (C8.pe_c c__law_draw hr (by omega) rfl (pa_cons (pv 0) (pa_cons (pe_callB (k_len K) rfl B.b_len (by decide +kernel) (pa_cons (pv 1) pa_nil)) pa_nil))) (fun _ _ => rfl)))
      (pss_cons (ps_setLc (i := 7) (own := [("_law_name_here", 8)]) rfl sc__law_script.nd rfl rfl (sw_true rfl rfl rfl (by decide +kernel)) (k_pseq K (pv 1)) (blkOk_by (own := [("_law_name_here", 8)]) (N := N__law_script) (sc := defScope s__law_script) (by decide +kernel))
        (fun _ _ _ _ _ => (pg_name (i := 8) sc__law_script.nd rfl (.inl rfl))) (fun _ _ _ _ _ => pts_one (pt_cmpR op_ne (pv 8) (pv 6) (by rfl))) (fun _ _ _ _ _ => (pv 8)))
      (pss_one (ps_if (PW.pt (pw_and (pt_cmpR op_eq (pv 5) pe_int (by rfl)) (pw_and1 (pt_cmpR op_gt (pe_callB (k_len K) rfl B.b_len (by decide +kernel) (pa_cons (pv 7) pa_nil)) pe_int (by rfl))))) (pss_one (ps_expr (k_bm K PySem.F.plainAttrs_list PySem.F.slot_list_append PySem.F.type_list_append mt_append (pv 3) (pa_cons (pe_tup (pa_cons pe_str (pa_cons (pv 6) (pa_cons (pe_ix (k_ix_seq K) (pv 7) (C8.pe_c c__law_draw hr (by omega) rfl (pa_cons (pv 0) (pa_cons (pe_callB (k_len K) rfl B.b_len (by decide +kernel) (pa_cons (pv 7) pa_nil)) pa_nil))) (fun _ _ => rfl)) pa_nil)))) pa_nil)))) (pss_one (ps_expr (k_bm K PySem.F.plainAttrs_list PySem.F.slot_list_append PySem.F.type_list_append mt_append (pv 3) (pa_cons (pe_tup (pa_cons (pe_ix (k_ix_seq K) (pe_lst (pa_cons pe_str (pa_cons pe_str (pa_cons pe_str (pa_cons pe_str pa_nil))))) (pv 5) (fun _ _ => rfl)) (pa_cons (pv 6) pa_nil))) pa_nil))))))))))
      (pss_one (ps_ret (pv 3))))), st_eq (σ' := [some _, some _, some _, none, none, none, none, none, none]) rfl ?_⟩
  walk_at "go"
  refine i_new (by simp) fun R nR => ?_
  have hlen : 0 < ns.length := List.length_pos_iff.mpr hne
  have s1 : Same H (upd H R (.lst [])) := Same.new nR
  generalize eH : upd H R _ = H1 at s1 ⊢
  have hR1 : H1 R = some (.lst []) := by rw [← eH]; exact upd_same
  have hP1 := hP.same s1
  have oR : R ∉ [p, g0] := hP.out nR
  have nRp : R ≠ p := fun e => oR (by simp [e])
  have nRg : R ≠ g0 := fun e => oR (by simp [e])
  have nRc : R ≠ c := fun e => (hP.kp (a := R)).2.1 (by rw [← e]; exact nR)
  have nRl : l ≠ R := ne_of_none hl nR
  walk_at "go"
  refine ⟨p, c, g0, most + 1, rfl, rfl, by omega, by omega, hP1, fun v H2 v0 v1 k2 hP2 => ?_⟩
  walk_at "go"
  refine f_range (by omega) (by omega) (ScI K H p c g0 l R ns most)
    ⟨[], [], none, none, none, none, rfl, (Kp.same s1).trans k2, hP2, k2 _ _ oR hR1, k2 _ _ ol (s1 _ _ hl), .nil, rfl⟩ ?_ ?_
  · rintro i σ H' hi ⟨xs, es, y4, y5, y6, y7, rfl, k3, hP3, hR3, hl3, hp3, he⟩
    walk_at "go"
    refine ⟨p, c, g0, 4, rfl, rfl, by decide, by decide, hP3, fun u H4 u0 u1 k4 hP4 => ?_⟩
    have hl4 := k4 _ _ ol hl3
    walk_at "go"
    refine i_len (.inl (sqL hl4)) ?_
    walk_at "go"
    refine ⟨p, c, g0, _, rfl, rfl, by simp; omega, by simp; omega, hP4, fun t H5 t0 t1 k5 hP5 => ?_⟩
    rw [List.length_map] at t1
    have hl5 := k5 _ _ ol hl4
    obtain ⟨z, hz, hzm⟩ := names_get t0 t1
    walk_at "go"
    refine i_ixqL (sqL hl5) hz ?_
    walk_at "go"
    have hR5 := k5 _ _ oR (k4 _ _ oR hR3)
    have kt5 : KT H' H5 := (hP3.kt k4).trans (hP4.kt k5)
    have fin : ∀ (H6 : Hp) (T : Addr) (ss : List Str) (σ' : L2.St), (∃ y4 y5 y6 y7, σ' = [some (.ref p), some (.ref l), some (.int most), some (.ref R), y4, y5, y6, y7, none]) → Kp [p, g0] H H6 → Purse H6 p c g0 → H6 R = some (.lst xs) → H6 l = some (.lst (ns.map V.str)) → KT H' H6 → H6 T = none → (∀ z ∈ ss, z.length ≤ 8) → edOf (ss.map some) = true →
        ScI K H p c g0 l R ns most (i + 1) σ' (upd (upd H6 T (.tup (ss.map V.str))) R (.lst (xs ++ [.ref T]))) := by
      rintro H6 T ss σ' ⟨y4, y5, y6, y7, rfl⟩ k6 hP6 hR6 hl6 kt6 nT hz hg
      have sT : Same H6 (upd H6 T (.tup (ss.map V.str))) := Same.new nT
      have ktR : KT (upd H6 T (.tup (ss.map V.str))) (upd (upd H6 T (.tup (ss.map V.str))) R (.lst (xs ++ [.ref T]))) := KT.updL (sT _ _ hR6)
      refine ⟨xs ++ [.ref T], es ++ [ss], y4, y5, y6, y7, rfl, (k6.new nT).loc nR, (hP6.same sT).upd nRp nRc nRg, upd_same, by rw [upd_ne nRl]; exact sT _ _ hl6, paired_snoc ⟨T, rfl, ktR.sqT (sqT upd_same), fun z h => sz (Nat.le_trans (hz z h) (by decide)), hg⟩ (paired_imp (fun _ _ h => h.kt ((kt6.trans (.same sT)).trans ktR)) hp3), by rw [List.length_append, he]; rfl⟩
    refine l_seq (.inl (sqL hl5)) (fun D j H' => Same H5 H' ∧ H' D = some (.lst (((ns.take j).filter (fun y => !decide (y = z))).map V.str))) (fun D hD => ⟨Same.new hD, upd_same⟩) (fun D i H' hD hi p o => p.1 _ _) ?_ ?_
    · rintro D j x H' hD hx ⟨s2, hA⟩
      obtain ⟨n, hn', rfl⟩ := map_get hx
      walk_at "go"
      refine i_n (fun h2 => ?_) (fun h2 => ?_)
      · walk_at "go"
        refine ⟨_, hA, szl ?_, s2.loc hD, ?_⟩
        · rw [List.length_map]
          refine Nat.le_trans (List.length_filter_le _ _) ?_
          rw [List.length_take]
          omega
        · have h3 : ¬ n = z := fun e => h2 (by rw [e])
          rw [upd_same, take_succ' hn', List.filter_append, List.map_append]
          simp [h3]
      · refine ⟨s2, ?_⟩
        have h3 : n = z := V.str.inj h2
        rw [hA, take_succ' hn', List.filter_append, List.map_append]
        simp [h3]
    · rintro D H6 hD ⟨s6, hA⟩
      rw [List.length_map, List.take_length] at hA
      generalize eO : ns.filter (fun y => !decide (y = z)) = os at hA
      have hos : ∀ y ∈ os, y ∈ ns ∧ y ≠ z := fun y hy => by
        rw [← eO] at hy
        have := List.mem_filter.mp hy
        exact ⟨this.1, by simpa using this.2⟩
      have k6 : Kp [p, g0] H H6 := ((k3.trans k4).trans k5).then s6
      have hP6 := hP5.same s6
      have hR6 := s6 _ _ hR5
      have hl6 := s6 _ _ hl5
      have ht6 : KT H' H6 := kt5.trans (.same s6)
      have oD : D ∉ [p, g0] := hP5.out hD
      walk_at "go"
      refine i_d (fun h1 => ?_) (fun h1 => ?_)
      · walk_at "go"
        refine i_len (.inl (sqL hA)) ?_
        walk_at "go"
        refine i_d (fun h2 => ?_) (fun h2 => ?_)
        · walk_at "go"
          refine i_tyL hR6 ?_
          walk_at "go"
          refine i_len (.inl (sqL hA)) ?_
          walk_at "go"
          refine ⟨p, c, g0, _, rfl, rfl, by omega, ?_, hP6, fun x H7 x0 x1 k7 hP7 => ?_⟩
          · rw [← eO, List.length_map]
            have := List.length_filter_le (fun y => !decide (y = z)) ns
            omega
          rw [List.length_map] at x1
          obtain ⟨o, ho, hom⟩ := names_get x0 x1
          walk_at "go"
          refine i_ixqL (sqL (k7 _ _ oD hA)) ho ?_
          walk_at "go"
          refine i_new (by simp) fun T nT => ?_
          walk_at "go"
          refine i_append ((Same.new nT) _ _ (k7 _ _ oR hR6)) (szl (by rw [hp3.length]; omega)) ?_
          refine fin _ T [Str.ofString "turn", z, o] _ ⟨_, _, _, _, rfl⟩ (k6.trans k7) hP7 (k7 _ _ oR hR6) (k7 _ _ ol hl6) (ht6.trans (hP6.kt k7)) nT ?_ ?_
          · intro y hy
            simp at hy
            rcases hy with rfl | rfl | rfl
            · decide
            · exact name_len (hN.nm _ hzm)
            · exact name_len (hN.nm _ (hos _ hom).1)
          · exact ed3 (hN.nm _ hzm) (hN.nm _ (hos _ hom).1) (Ne.symm (hos _ hom).2)
        · walk_at "go"
          refine i_tyL hR6 ?_
          walk_at "go"
          refine i_new (by simp) fun W nW => ?_
          have sW := Same.new (o := .lst [V.str (Str.ofString "keep"), V.str (Str.ofString "drop"), V.str (Str.ofString "put"), V.str (Str.ofString "keep")]) nW
          obtain ⟨wd, hwd, hwm⟩ := names_get (ns := [Str.ofString "keep", Str.ofString "drop", Str.ofString "put", Str.ofString "keep"]) u0 u1
          walk_at "go"
          refine i_ixqL (sqL upd_same) hwd ?_
          walk_at "go"
          refine i_new (by simp) fun T nT => ?_
          walk_at "go"
          refine i_append ((Same.new nT) _ _ (sW _ _ hR6)) (szl (by rw [hp3.length]; omega)) ?_
          refine fin _ T [wd, z] _ ⟨_, _, _, _, rfl⟩ (k6.new nW) (hP6.same sW) (sW _ _ hR6) (sW _ _ hl6) (ht6.trans (.same sW)) nT ?_ ?_
          · intro y hy
            simp at hy
            rcases hy with rfl | rfl
            · simp at hwm
              rcases hwm with rfl | rfl | rfl | rfl <;> decide
            · exact name_len (hN.nm _ hzm)
          · refine ed2 ?_ (hN.nm _ hzm)
            simp at hwm
            rcases hwm with rfl | rfl | rfl | rfl <;> simp
      · walk_at "go"
        refine i_tyL hR6 ?_
        walk_at "go"
        refine i_new (by simp) fun W nW => ?_
        have sW := Same.new (o := .lst [V.str (Str.ofString "keep"), V.str (Str.ofString "drop"), V.str (Str.ofString "put"), V.str (Str.ofString "keep")]) nW
        obtain ⟨wd, hwd, hwm⟩ := names_get (ns := [Str.ofString "keep", Str.ofString "drop", Str.ofString "put", Str.ofString "keep"]) u0 u1
        walk_at "go"
        refine i_ixqL (sqL upd_same) hwd ?_
        walk_at "go"
        refine i_new (by simp) fun T nT => ?_
        walk_at "go"
        refine i_append ((Same.new nT) _ _ (sW _ _ hR6)) (szl (by rw [hp3.length]; omega)) ?_
        refine fin _ T [wd, z] _ ⟨_, _, _, _, rfl⟩ (k6.new nW) (hP6.same sW) (sW _ _ hR6) (sW _ _ hl6) (ht6.trans (.same sW)) nT ?_ ?_
        · intro y hy
          simp at hy
          rcases hy with rfl | rfl
          · simp at hwm
            rcases hwm with rfl | rfl | rfl | rfl <;> decide
          · exact name_len (hN.nm _ hzm)
        · refine ed2 ?_ (hN.nm _ hzm)
          simp at hwm
          rcases hwm with rfl | rfl | rfl | rfl <;> simp
  · rintro σ H' ⟨xs, es, y4, y5, y6, y7, rfl, k3, hP3, hR3, hl3, hp3, he⟩
    walk_at "go"
    exact q _ R xs es k3 hP3 nR hR3 hp3 (by omega)

/-! ### _law_same upon equal data -/
/-- x and y hold the same data, nested fewer than n deep -/
def DEq (K : PySem.W.Frag) (H : Hp) : Nat → V → V → Prop
  | 0, _, _ => False
  | n + 1, x, y => (x = y ∧ flatV x = true ∧ ∀ z, x = .str z → z.length ≤ sizeLine) ∨
    ∃ a b xs ys, x = .ref a ∧ y = .ref b ∧ ((SqL K H a xs ∧ SqL K H b ys) ∨ (SqT K H a xs ∧ SqT K H b ys)) ∧ xs.length = ys.length ∧ ys.length ≤ 1000000 ∧ ∀ (i : Nat) (x' y' : V), xs[i]? = some x' → ys[i]? = some y' → DEq K H n x' y'
theorem DEq.same {H H' : Hp} (e : Same H H') : ∀ {n : Nat} {x y : V}, DEq K H n x y → DEq K H' n x y
  | 0, _, _, h => h
  | n + 1, x, y, h => by
    rcases h with h | ⟨a, b, xs, ys, rfl, rfl, hk, hl, hsz, hi⟩
    · exact .inl h
    · refine .inr ⟨a, b, xs, ys, rfl, rfl, ?_, hl, hsz, fun i x' y' hx hy => (hi i x' y' hx hy).same e⟩
      rcases hk with ⟨h1, h2⟩ | ⟨h1, h2⟩
      · exact .inl ⟨e.seq h1, e.seq h2⟩
      · exact .inr ⟨e.sqT h1, e.sqT h2⟩
abbrev spSame (K : PySem.W.Frag) (n : Nat) : Sp := sp2 fun x y H Q _ => DEq K H n x y ∧ ∀ H', Same H H' → Q (.bl true) H'
theorem ok__law_same {f : Addr} {fd : FuncData} {k : Nat} (F : L2.Fun K "_law_same" "_law_same" s__law_same f fd) (g : mg "_law_same" = some (.ref f)) (B : Bs mg) (c__law_same : C8.Cal P w K mg base k "_law_same" (spSame K n) []) : C8.Cal P w K mg base (k + 1) "_law_same" (spSame K (n + 1)) [] := by
  refine cal2 F g sc__law_same (F.binds (ps := P__law_same) fun _ _ _ _ _ _ us hl => match us, hl with | [_, _], _ => rfl) rfl fun cdv A outer s H Q E x y hr h => ?_
  obtain ⟨hE, q⟩ := h
  refine ⟨_, (pss_cons (ps_if (pt_cmpR o_isN (pv 1) pe_non (by rfl)) (pss_one (ps_ret (pe_cmpR o_isN (pv 0) pe_non (by rfl)))) pss_nil)
      (pss_cons (ps_if (pt_val (pe_callB (k_isi K) rfl B.b_isinstance (by decide +kernel) (pa_cons (pv 1) (pa_cons (pe_bltn (v := .ty "bool") rfl B.b_bool (by decide +kernel) rfl) pa_nil)))) (pss_one (ps_ret (pe_and (pe_callB (k_isi K) rfl B.b_isinstance (by decide +kernel) (pa_cons (pv 0) (pa_cons (pe_bltn (v := .ty "bool") rfl B.b_bool (by decide +kernel) rfl) pa_nil))) (pe_one (pe_cmpR op_eq (pv 0) (pv 1) (by rfl)))))) pss_nil)
      (pss_cons (ps_if (pt_val (pe_callB (k_isi K) rfl B.b_isinstance (by decide +kernel) (pa_cons (pv 1) (pa_cons (pe_bltn (v := .ty "int") rfl B.b_int (by decide +kernel) rfl) pa_nil)))) (pss_one (ps_ret (pe_and (pe_callB (k_isi K) rfl B.b_isinstance (by decide +kernel) (pa_cons (pv 0) (pa_cons (pe_bltn (v := .ty "int") rfl B.b_int (by decide +kernel) rfl) pa_nil))) (pe_and (pe_not (pe_callB (k_isi K) rfl B.b_isinstance (by decide +kernel) (pa_cons (pv 0) (pa_cons (pe_bltn (v := .ty "bool") rfl B.b_bool (by decide +kernel) rfl) pa_nil)))) (pe_one (pe_cmpR op_eq (pv 0) (pv 1) (by rfl))))))) pss_nil)
      (pss_cons (ps_if (pt_val (pe_callB (k_isi K) rfl B.b_isinstance (by decide +kernel) (pa_cons (pv 1) (pa_cons (pe_bltn (v := .ty "str") rfl B.b_str (by decide +kernel) rfl) pa_nil)))) (pss_one (ps_ret (pe_and (pe_callB (k_isi K) rfl B.b_isinstance (by decide +kernel) (pa_cons (pv 0) (pa_cons (pe_bltn (v := .ty "str") rfl B.b_str (by decide +kernel) rfl) pa_nil))) (pe_one (pe_cmpR op_eq (pv 0) (pv 1) (by rfl)))))) pss_nil)
      (pss_cons (ps_if (pt_val (pe_callB (k_isi K) rfl B.b_isinstance (by decide +kernel) (pa_cons (pv 1) (pa_cons (pe_bltn (v := .ty "dict") rfl B.b_dict (by decide +kernel) rfl) pa_nil)))) pss_never pss_nil)
      (C8.pss_cut (ps_if (PW.pt (pw_and (pt_val (pe_callB (k_isi K) rfl B.b_isinstance (by decide +kernel) (pa_cons (pv 1) (pa_cons (pe_bltn (v := .ty "tuple") rfl B.b_tuple (by decide +kernel) rfl) pa_nil)))) (pw_and1 (pt_not (pt_val (pe_callB (k_isi K) rfl B.b_isinstance (by decide +kernel) (pa_cons (pv 0) (pa_cons (pe_bltn (v := .ty "tuple") rfl B.b_tuple (by decide +kernel) rfl) pa_nil)))))))) (pss_one (ps_ret pe_bl)) pss_nil)
      (C8.pss_cut (ps_if (PW.pt (pw_and (pt_val (pe_callB (k_isi K) rfl B.b_isinstance (by decide +kernel) (pa_cons (pv 1) (pa_cons (pe_bltn (v := .ty "list") rfl B.b_list (by decide +kernel) rfl) pa_nil)))) (pw_and1 (pt_not (pt_val (pe_callB (k_isi K) rfl B.b_isinstance (by decide +kernel) (pa_cons (pv 0) (pa_cons (pe_bltn (v := .ty "list") rfl B.b_list (by decide +kernel) rfl) pa_nil)))))))) (pss_one (ps_ret pe_bl)) pss_nil)
      (pss_cons (ps_if (pt_cmpR op_ne (pe_callB (k_len K) rfl B.b_len (by decide +kernel) (pa_cons (pv 0) pa_nil)) (pe_callB (k_len K) rfl B.b_len (by decide +kernel) (pa_cons (pv 1) pa_nil)) (by rfl)) (pss_one (ps_ret pe_bl)) pss_nil)
      (pss_cons (ps_for PassesOwn.never rfl (pi_range1 rfl B.b_range (pa_cons (pe_callB (k_len K) rfl B.b_len (by decide +kernel) (pa_cons (pv 1) pa_nil)) pa_nil)) (pg_name (i := 2) sc__law_same.nd rfl (.inl rfl))
      (pss_one (ps_if (pt_not (pt_val (C8.pe_c c__law_same hr (by omega) rfl (pa_cons (pe_ix (k_ix_seq K) (pv 0) (pv 2) (fun _ _ => rfl)) (pa_cons (pe_ix (k_ix_seq K) (pv 1) (pv 2) (fun _ _ => rfl)) pa_nil))))) (pss_one (ps_ret pe_bl)) pss_nil)))
      (pss_one (ps_ret pe_bl))))))))))), st_eq (σ' := [some _, some _, none, none]) rfl ?_⟩
  rcases hE with ⟨rfl, hf, hz⟩ | ⟨a, b, xs, ys, rfl, rfl, hk, hl, hsz, hi⟩
  · cases x with
    | non =>
      walk_at "go"
      walk_at "t"
      walk_at "go"
      exact q _ (Same.refl _)
    | bl b =>
      walk_at "go"
      walk_at "f"
      walk_at "go"
      refine i_isi ty_bl (b := true) (by decide +kernel) ?_
      walk_at "go"
      refine i_isi ty_bl (b := true) (by decide +kernel) ?_
      walk_at "go"
      rw [decide_eq_true rfl]
      exact q _ (Same.refl _)
    | int i =>
      walk_at "go"
      walk_at "f"
      walk_at "go"
      refine i_isi ty_int (b := false) (by decide +kernel) ?_
      walk_at "go"
      refine i_isi ty_int (b := true) (by decide +kernel) ?_
      walk_at "go"
      refine i_isi ty_int (b := true) (by decide +kernel) ?_
      walk_at "go"
      refine i_isi ty_int (b := false) (by decide +kernel) ?_
      walk_at "go"
      rw [decide_eq_true rfl]
      exact q _ (Same.refl _)
    | str z =>
      walk_at "go"
      walk_at "f"
      walk_at "go"
      refine i_isi ty_str (b := false) (by decide +kernel) ?_
      walk_at "go"
      refine i_isi ty_str (b := false) (by decide +kernel) ?_
      walk_at "go"
      refine i_isi ty_str (b := true) (by decide +kernel) ?_
      walk_at "go"
      refine i_isi ty_str (b := true) (by decide +kernel) ?_
      walk_at "go"
      rw [decide_eq_true rfl]
      exact q _ (Same.refl _)
    | _ => cases hf
  · walk_at "go"
    walk_at "f"
    walk_at "go"
    have key : ∃ (nm : String) (bT bL : Bool), TyX K H (.ref a) (.type nm) ∧ TyX K H (.ref b) (.type nm) ∧ kitB nm "bool" = some false ∧ kitB nm "int" = some false ∧ kitB nm "str" = some false ∧ kitB nm "dict" = some false ∧ kitB nm "tuple" = some bT ∧ kitB nm "list" = some bL := by
      rcases hk with ⟨h1, h2⟩ | ⟨h1, h2⟩
      · exact ⟨"list", false, true, ty_lst h1, ty_lst h2, by decide +kernel, by decide +kernel, by decide +kernel, by decide +kernel, by decide +kernel, by decide +kernel⟩
      · exact ⟨"tuple", true, false, ty_tup h1, ty_tup h2, by decide +kernel, by decide +kernel, by decide +kernel, by decide +kernel, by decide +kernel, by decide +kernel⟩
    have hA : Sq K H a xs := hk.imp And.left And.left
    have hB : Sq K H b ys := hk.imp And.right And.right
    obtain ⟨nm, bT, bL, ta, tb, k1, k2, k3, k4, k5, k6⟩ := key
    refine i_isi tb k1 ?_
    walk_at "go"
    refine i_isi tb k2 ?_
    walk_at "go"
    refine i_isi tb k3 ?_
    walk_at "go"
    refine i_isi tb k4 ?_
    walk_at "go"
    refine ⟨fun σ' H' => σ' = [some (.ref a), some (.ref b), none, none] ∧ H = H', ?_, ?_⟩
    · walk_at "go"
      refine i_isi tb k5 ?_
      walk_at "go"
      cases bT with
      | true =>
        walk_at "go"
        refine i_isi ta k5 ?_
        walk_at "go"
        exact rfl
      | false =>
        walk_at "go"
        exact rfl
    rintro σ' H' ⟨rfl, rfl⟩
    refine ⟨fun σ' H' => σ' = [some (.ref a), some (.ref b), none, none] ∧ H = H', ?_, ?_⟩
    · walk_at "go"
      refine i_isi tb k6 ?_
      walk_at "go"
      cases bL with
      | true =>
        walk_at "go"
        refine i_isi ta k6 ?_
        walk_at "go"
        exact rfl
      | false =>
        walk_at "go"
        exact rfl
    rintro σ' H' ⟨rfl, rfl⟩
    walk_at "go"
    refine i_len hA ?_
    walk_at "go"
    refine i_len hB ?_
    walk_at "go"
    rw [hl]
    walk_at "f"
    walk_at "go"
    refine i_len hB ?_
    refine f_range (by omega) (by omega) (fun i σ H' => ∃ y, σ = [some (.ref a), some (.ref b), y, none] ∧ Same H H') ⟨none, rfl, Same.refl _⟩ ?_ ?_
    · rintro i σ H' hi' ⟨y, rfl, s1⟩
      have h1 : i < ys.length := by omega
      have h2 : i < xs.length := by omega
      walk_at "go"
      refine i_ixq (s1.sq hA) (atI_nat (List.getElem?_eq_getElem h2)) ?_
      walk_at "go"
      refine i_ixq (s1.sq hB) (atI_nat (List.getElem?_eq_getElem h1)) ?_
      walk_at "go"
      refine ⟨(hi i _ _ (List.getElem?_eq_getElem h2) (List.getElem?_eq_getElem h1)).same s1, fun H2 s2 => ?_⟩
      walk_at "go"
      exact ⟨_, rfl, s1.trans s2⟩
    · rintro σ H' ⟨y, rfl, s1⟩
      walk_at "go"
      exact q _ s1

/-! ### the law -/
abbrev spLaw (K : PySem.W.Frag) : Sp := sp1 fun x H Q _ => ∃ (a : Addr) (ns : List Int), x = .ref a ∧ SqL K H a (ns.map V.int) ∧ ∀ H', Q (.bl true) H'
theorem deq_strs {H : Hp} {a b : Addr} {ss : List Str} {m : Nat} (ha : H a = some (.tup (ss.map V.str))) (hb : H b = some (.tup (ss.map V.str))) (hl : ss.length ≤ 5000) (hz : ∀ z ∈ ss, z.length ≤ sizeLine) : DEq K H (m + 2) (.ref a) (.ref b) := by
  refine .inr ⟨a, b, _, _, rfl, rfl, .inr ⟨sqT ha, sqT hb⟩, rfl, by simp; omega, fun i x' y' hx hy => .inl ?_⟩
  rw [hx] at hy
  cases hy
  obtain ⟨z, hz', rfl⟩ := map_get hx
  exact ⟨rfl, rfl, fun z' e => by cases e; exact hz z (List.mem_of_getElem? hz')⟩
theorem deq_int {H : Hp} {i : Int} {m : Nat} : DEq K H (m + 1) (.int i) (.int i) := .inl ⟨rfl, rfl, fun _ e => by cases e⟩
theorem deq3 {H : Hp} {a b : Addr} {x1 x2 x3 y1 y2 y3 : V} {m : Nat} (ha : H a = some (.lst [x1, x2, x3])) (hb : H b = some (.lst [y1, y2, y3])) (h1 : DEq K H m x1 y1) (h2 : DEq K H m x2 y2) (h3 : DEq K H m x3 y3) : DEq K H (m + 1) (.ref a) (.ref b) := by
  refine .inr ⟨a, b, _, _, rfl, rfl, .inl ⟨sqL ha, sqL hb⟩, rfl, by simp, fun i x' y' hx hy => ?_⟩
  rcases i with _ | _ | _ | i
  · cases hx; cases hy; exact h1
  · cases hx; cases hy; exact h2
  · cases hx; cases hy; exact h3
  · simp at hx
theorem srcOf_snoc (es : List (List Str)) (e : List Str) : srcOf (es ++ [e]) = srcOf es ++ srcOf [e] := by simp [srcOf]
theorem tgtOf_snoc (es : List (List Str)) (e : List Str) : tgtOf (es ++ [e]) = tgtOf es ++ tgtOf [e] := by simp [tgtOf]
theorem costOf_snoc (es : List (List Str)) (e : List Str) : costOf (es ++ [e]) = costOf es + costOf [e] := by simp [costOf]
theorem ed_cases {ss : List Str} (h : edOf (ss.map some) = true) : (∃ w t, ss = [w, t] ∧ (w = Str.ofString "keep" ∨ w = Str.ofString "drop" ∨ w = Str.ofString "put")) ∨ ∃ t u, ss = [Str.ofString "turn", t, u] := by
  rcases ss with _ | ⟨w, _ | ⟨t, _ | ⟨u, _ | ⟨v, r⟩⟩⟩⟩
  · cases h
  · cases h
  · refine .inl ⟨w, t, rfl, ?_⟩
    simp [edOf, or_assoc] at h
    exact h.2
  · refine .inr ⟨t, u, ?_⟩
    simp [edOf] at h
    rw [h.2.1]
  · cases h
theorem paired_right {α β : Type} {R : α → β → Prop} : ∀ {xs : List α} {ys : List β} {y : β}, Paired R xs ys → y ∈ ys → ∃ x, R x y
  | _, _, _, .nil, h => by cases h
  | _, _, y, .cons r t, h => by
    rcases List.mem_cons.mp h with rfl | h
    · exact ⟨_, r⟩
    · exact paired_right t h
theorem getD_len {ss : List Str} {i : Nat} (h : ∀ z ∈ ss, z.length ≤ sizeLine) : (ss.getD i (Str.ofString "")).length ≤ sizeLine := by
  rw [List.getD_eq_getElem?_getD]
  cases e : ss[i]? with
  | none => decide
  | some z => exact h z (List.mem_of_getElem? e)
theorem last_len {ss : List Str} (h : ∀ z ∈ ss, z.length ≤ sizeLine) : (ss.getLastD (Str.ofString "")).length ≤ sizeLine := by
  rw [List.getLastD_eq_getLast?]
  cases e : ss.getLast? with
  | none => decide
  | some z => exact h z (List.mem_of_getLast? e)
theorem src_len {H : Hp} {xs : List V} {es : List (List Str)} (hp : Paired (EdS K H) xs es) : ∀ z ∈ srcOf es, z.length ≤ sizeLine := by
  intro z hz
  obtain ⟨e, he, rfl⟩ := List.mem_map.mp hz
  obtain ⟨x, _, _, _, h, _⟩ := paired_right hp (List.mem_filter.mp he).1
  exact getD_len h
theorem tgt_len {H : Hp} {xs : List V} {es : List (List Str)} (hp : Paired (EdS K H) xs es) : ∀ z ∈ tgtOf es, z.length ≤ sizeLine := by
  intro z hz
  obtain ⟨e, he, rfl⟩ := List.mem_map.mp hz
  obtain ⟨x, _, _, _, h, _⟩ := paired_right hp (List.mem_filter.mp he).1
  exact last_len h
theorem src_le (es : List (List Str)) : (srcOf es).length ≤ es.length := by
  unfold srcOf
  rw [List.length_map]
  exact List.length_filter_le _ _
theorem tgt_le (es : List (List Str)) : (tgtOf es).length ≤ es.length := by
  unfold tgtOf
  rw [List.length_map]
  exact List.length_filter_le _ _
theorem paired_self {α : Type} {R : α → α → Prop} : ∀ {xs : List α}, (∀ x ∈ xs, R x x) → Paired R xs xs
  | [], _ => .nil
  | x :: xs, h => .cons (h x (by simp)) (paired_self fun y hy => h y (by simp [hy]))
theorem paired_left {α β : Type} {R : α → β → Prop} : ∀ {xs : List α} {ys : List β} {x : α}, Paired R xs ys → x ∈ xs → ∃ y, R x y
  | _, _, _, .nil, h => by cases h
  | _, _, x, .cons r t, h => by
    rcases List.mem_cons.mp h with rfl | h
    · exact ⟨_, r⟩
    · exact paired_left t h
/-- between two turns of the law's own reckoning -/
def LwI (H0 : Hp) (p l R A W : Addr) (s : V) (es : List (List Str)) (i : Nat) (σ : L2.St) (H' : Hp) : Prop :=
  ∃ (y7 : Option V), σ = [some s, some (.ref p), some (.ref l), some (.ref R), some (.ref A), some (.ref W), some (.int (costOf (es.take i) : Nat)), y7, none, none, none, none] ∧ Same H0 H' ∧ H' A = some (.lst ((srcOf (es.take i)).map V.str)) ∧ H' W = some (.lst ((tgtOf (es.take i)).map V.str))
theorem ok_law {f : Addr} {fd : FuncData} {k : Nat} (F : L2.Fun K "law" "law" s_law f fd) (B : Bs mg) (c__law_purse : C8.Cal P w K mg base k "_law_purse" (spPurse K) []) (c__law_names : C8.Cal P w K mg base k "_law_names" (spNames) []) (c__law_draw : C8.Cal P w K mg base k "_law_draw" (spDraw) []) (c__law_script : C8.Cal P w K mg base k "_law_script" (spScript K) []) (c_source : C8.Cal P w K mg base k "source" (spSource K) []) (c_target : C8.Cal P w K mg base k "target" (spTarget K) []) (c_cost : C8.Cal P w K mg base k "cost" (spCost K) []) (c__law_same : C8.Cal P w K mg base k "_law_same" (spSame K 3) []) : FnOk P w K mg base CX0 (k + 1) f fd P_law (spLaw K) := by
  refine fn1 F sc_law rfl fun cdv A outer s H Q E x hr h => ?_
  obtain ⟨a, ns, rfl, hS, q⟩ := h
  refine ⟨_, (pss_cons (ps_set (i := 1) sc_law.nd rfl (.inl rfl) (C8.pe_c c__law_purse hr (by omega) rfl (pa_cons (pv 0) pa_nil)))
      (pss_cons (ps_set (i := 2) sc_law.nd rfl (.inl rfl) (C8.pe_c c__law_names hr (by omega) rfl (pa_cons (pv 1) (pa_cons (pe_op op_add pe_int (C8.pe_c c__law_draw hr (by omega) rfl (pa_cons (pv 1) (pa_cons pe_int pa_nil)))) pa_nil))))
      (pss_cons (ps_set (i := 3) sc_law.nd rfl (.inl rfl) (C8.pe_c c__law_script hr (by omega) rfl (pa_cons (pv 1) (pa_cons (pv 2) (pa_cons pe_int pa_nil)))))
      (pss_cons (ps_set (i := 4) sc_law.nd rfl (.inl rfl) (pe_lst pa_nil))
      (pss_cons (ps_set (i := 5) sc_law.nd rfl (.inl rfl) (pe_lst pa_nil))
      (pss_cons (ps_set (i := 6) sc_law.nd rfl (.inl rfl) pe_int)
      (pss_cons (ps_for PassesOwn.never rfl (k_pseq K (pv 3)) (pg_name (i := 7) sc_law.nd rfl (.inl rfl))
      (pss_cons (ps_if (pt_cmpR op_ne (pe_ix (k_ix_seq K) (pv 7) pe_int (fun _ _ => rfl)) pe_str (by rfl)) (pss_one (ps_expr (k_bm K PySem.F.plainAttrs_list PySem.F.slot_list_append PySem.F.type_list_append mt_append (pv 4) (pa_cons (pe_ix (k_ix_seq K) (pv 7) pe_int (fun _ _ => rfl)) pa_nil)))) pss_nil)
      (pss_cons (ps_if (pt_cmpR op_eq (pe_ix (k_ix_seq K) (pv 7) pe_int (fun _ _ => rfl)) pe_str (by rfl)) (pss_one (ps_expr (k_bm K PySem.F.plainAttrs_list PySem.F.slot_list_append PySem.F.type_list_append mt_append (pv 5) (pa_cons (pe_ix (k_ix_seq K) (pv 7) pe_int (fun _ _ => rfl)) pa_nil)))) pss_nil)
      (pss_cons (ps_if (PW.pt (pw_or (pt_cmpR op_eq (pe_ix (k_ix_seq K) (pv 7) pe_int (fun _ _ => rfl)) pe_str (by rfl)) (pw_or1 (pt_cmpR op_eq (pe_ix (k_ix_seq K) (pv 7) pe_int (fun _ _ => rfl)) pe_str (by rfl))))) (pss_one (ps_expr (k_bm K PySem.F.plainAttrs_list PySem.F.slot_list_append PySem.F.type_list_append mt_append (pv 5) (pa_cons (pe_ix (k_ix_seq K) (pv 7) pe_int (fun _ _ => rfl)) pa_nil)))) pss_nil)
      (pss_one (ps_if (pt_cmpR op_ne (pe_ix (k_ix_seq K) (pv 7) pe_int (fun _ _ => rfl)) pe_str (by rfl)) (pss_one (ps_set (i := 6) sc_law.nd rfl (.inl rfl) (pe_op op_add (pv 6) pe_int))) pss_nil))))))
      (pss_cons (ps_set (i := 8) sc_law.nd rfl (.inl rfl) (pe_lst (pa_cons (pe_callTy (k_tuple_of K) rfl B.b_tuple (by decide +kernel) (pa_cons (pv 4) pa_nil)) (pa_cons (pe_callTy (k_tuple_of K) rfl B.b_tuple (by decide +kernel) (pa_cons (pv 5) pa_nil)) (pa_cons (pv 6) pa_nil)))))
      (pss_cons (ps_set (i := 9) sc_law.nd rfl (.inl rfl) (pe_callTy (k_list_of K) rfl B.b_list (by decide +kernel) (pa_cons (pv 3) pa_nil)))
      (pss_cons (ps_set (i := 10) sc_law.nd rfl (.inl rfl) (pe_lst (pa_cons (C8.pe_c c_source hr (by omega) rfl (pa_cons (pv 9) pa_nil)) (pa_cons (C8.pe_c c_target hr (by omega) rfl (pa_cons (pv 9) pa_nil)) (pa_cons (C8.pe_c c_cost hr (by omega) rfl (pa_cons (pv 9) pa_nil)) pa_nil)))))
      (pss_cons (ps_set (i := 11) sc_law.nd rfl (.inl rfl) (pe_lst (pa_cons (C8.pe_c c_cost hr (by omega) rfl (pa_cons (pe_callTy (k_tuple_of K) rfl B.b_tuple (by decide +kernel) (pa_cons (pv 3) pa_nil)) pa_nil)) (pa_cons (C8.pe_c c_target hr (by omega) rfl (pa_cons (pe_callTy (k_tuple_of K) rfl B.b_tuple (by decide +kernel) (pa_cons (pv 3) pa_nil)) pa_nil)) (pa_cons (C8.pe_c c_source hr (by omega) rfl (pa_cons (pe_callTy (k_tuple_of K) rfl B.b_tuple (by decide +kernel) (pa_cons (pv 3) pa_nil)) pa_nil)) pa_nil)))))
      (pss_one (ps_ret (pe_and (C8.pe_c c__law_same hr (by omega) rfl (pa_cons (pv 10) (pa_cons (pv 8) pa_nil))) (pe_and (C8.pe_c c__law_same hr (by omega) rfl (pa_cons (pv 11) (pa_cons (k_revL K (pv 8)) pa_nil))) (pe_one (pe_cmpR (k_eqV K hr.units) (pv 9) (pv 3) (by rfl)))))))))))))))))), st_eq (σ' := [some _, none, none, none, none, none, none, none, none, none, none, none]) rfl ?_⟩
  walk_at "go"
  refine ⟨a, ns, rfl, hS, fun H1 p c g0 s1 np nc ng hP1 => ?_⟩
  walk_at "go"
  refine ⟨p, c, g0, 4, rfl, rfl, by decide, by decide, hP1, fun v H2 v0 v1 k2 hP2 => ?_⟩
  walk_at "go"
  refine ⟨p, c, g0, _, rfl, rfl, by omega, by omega, hP2, fun H3 l nm k3 hP3 nl hl3 hln hN => ?_⟩
  walk_at "go"
  refine ⟨p, c, g0, l, nm, 60, rfl, rfl, rfl, by decide, by decide, hP3, hl3, hP2.out nl, fun e => by rw [e] at hln; simp at hln; omega, hN, by omega, fun H4 R xs es k4 hP4 nR hR4 hp4 he => ?_⟩
  walk_at "go"
  refine i_new (by simp) fun A nA => ?_
  walk_at "go"
  refine i_new (by simp) fun W nW => ?_
  walk_at "go"
  have sA : Same H4 (upd H4 A (.lst [])) := Same.new nA
  have sW : Same (upd H4 A (.lst [])) (upd (upd H4 A (.lst [])) W (.lst [])) := Same.new nW
  have nW4 : H4 W = none := sA.free nW
  have nAW : A ≠ W := fun e => by rw [← e, upd_same] at nW; cases nW
  have sAW := sA.trans sW
  refine f_seq (xs := xs) (.inl (sqL (sAW _ _ hR4))) (LwI H4 p l R A W (.ref a) es) ⟨none, rfl, sAW, (sW _ _ upd_same), upd_same⟩ (fun i σ H' hi ⟨_, _, s, _⟩ o ho => by rw [sAW _ _ hR4] at ho; cases ho; exact s _ _ hR4) ?_ ?_
  · rintro i x σ H' hx ⟨y7, rfl, s5, hA5, hW5⟩
    obtain ⟨ss, hss, e, rfl, hE, hz, hg⟩ := paired_get hp4 hx
    have hE5 := s5.sqT hE
    have es1 : es.take (i + 1) = es.take i ++ [ss] := take_succ' hss
    have hle : i < es.length := (List.getElem?_eq_some_iff.mp hss).1
    have hlA : (srcOf (es.take i)).length ≤ 16000000 := by
      unfold srcOf
      rw [List.length_map]
      refine Nat.le_trans (List.length_filter_le _ _) ?_
      rw [List.length_take]
      omega
    have hlW : (tgtOf (es.take i)).length ≤ 16000000 := by
      unfold tgtOf
      rw [List.length_map]
      refine Nat.le_trans (List.length_filter_le _ _) ?_
      rw [List.length_take]
      omega
    rcases ed_cases hg with ⟨w0, t, rfl, rfl | rfl | rfl⟩ | ⟨t, u, rfl⟩
    · walk_at "go"
      refine i_ixqT ((s5).sqT hE) (atI_nat (j := 0) rfl) ?_
      walk_at "go"
      walk_at "t"
      walk_at "go"
      refine i_tyL hA5 ?_
      walk_at "go"
      refine i_ixqT ((s5).sqT hE) (atI_nat (j := 1) rfl) ?_
      walk_at "go"
      refine i_append hA5 (szl (by rw [List.length_map]; exact hlA)) ?_
      walk_at "go"
      have hA6 := upd_same (H := H') (a := A) (o := .lst ((srcOf (es.take i)).map V.str ++ [V.str t]))
      have hW6 : upd H' A (.lst ((srcOf (es.take i)).map V.str ++ [V.str t])) W = _ := (upd_ne nAW.symm).trans hW5
      refine i_ixqT ((s5.loc nA).sqT hE) (atI_nat (j := 0) rfl) ?_
      walk_at "go"
      walk_at "f"
      walk_at "go"
      refine i_ixqT ((s5.loc nA).sqT hE) (atI_nat (j := 0) rfl) ?_
      walk_at "go"
      walk_at "t"
      walk_at "go"
      refine i_tyL hW6 ?_
      walk_at "go"
      refine i_ixqT ((s5.loc nA).sqT hE) (atI_nat (j := 1) rfl) ?_
      walk_at "go"
      refine i_append hW6 (szl (by rw [List.length_map]; exact hlW)) ?_
      walk_at "go"
      refine i_ixqT (((s5.loc nA).loc nW4).sqT hE) (atI_nat (j := 0) rfl) ?_
      walk_at "go"
      walk_at "f"
      walk_at "go"
      refine ⟨_, by rw [es1, costOf_snoc]; rfl, (s5.loc nA).loc nW4, ?_, ?_⟩
      · rw [es1, srcOf_snoc, List.map_append]
        exact (upd_ne nAW).trans hA6
      · rw [es1, tgtOf_snoc, List.map_append]
        exact upd_same
    · walk_at "go"
      refine i_ixqT ((s5).sqT hE) (atI_nat (j := 0) rfl) ?_
      walk_at "go"
      walk_at "t"
      walk_at "go"
      refine i_tyL hA5 ?_
      walk_at "go"
      refine i_ixqT ((s5).sqT hE) (atI_nat (j := 1) rfl) ?_
      walk_at "go"
      refine i_append hA5 (szl (by rw [List.length_map]; exact hlA)) ?_
      walk_at "go"
      have hA6 := upd_same (H := H') (a := A) (o := .lst ((srcOf (es.take i)).map V.str ++ [V.str t]))
      have hW6 : upd H' A (.lst ((srcOf (es.take i)).map V.str ++ [V.str t])) W = _ := (upd_ne nAW.symm).trans hW5
      refine i_ixqT ((s5.loc nA).sqT hE) (atI_nat (j := 0) rfl) ?_
      walk_at "go"
      walk_at "f"
      walk_at "go"
      refine i_ixqT ((s5.loc nA).sqT hE) (atI_nat (j := 0) rfl) ?_
      walk_at "go"
      walk_at "f"
      walk_at "go"
      refine i_ixqT ((s5.loc nA).sqT hE) (atI_nat (j := 0) rfl) ?_
      walk_at "go"
      walk_at "f"
      walk_at "go"
      refine i_ixqT ((s5.loc nA).sqT hE) (atI_nat (j := 0) rfl) ?_
      walk_at "go"
      walk_at "t"
      walk_at "go"
      refine ⟨_, by rw [es1, costOf_snoc]; rfl, s5.loc nA, ?_, ?_⟩
      · rw [es1, srcOf_snoc, List.map_append]
        exact hA6
      · rw [es1, tgtOf_snoc, List.map_append]
        exact (hW6).trans (by rw [show tgtOf [[Str.ofString "drop", t]] = [] from rfl, List.map_nil, List.append_nil])
    · walk_at "go"
      refine i_ixqT ((s5).sqT hE) (atI_nat (j := 0) rfl) ?_
      walk_at "go"
      walk_at "f"
      walk_at "go"
      refine i_ixqT ((s5).sqT hE) (atI_nat (j := 0) rfl) ?_
      walk_at "go"
      walk_at "f"
      walk_at "go"
      refine i_ixqT ((s5).sqT hE) (atI_nat (j := 0) rfl) ?_
      walk_at "go"
      walk_at "f"
      walk_at "go"
      refine i_ixqT ((s5).sqT hE) (atI_nat (j := 0) rfl) ?_
      walk_at "go"
      walk_at "t"
      walk_at "go"
      refine i_tyL hW5 ?_
      walk_at "go"
      refine i_ixqT ((s5).sqT hE) (atI_nat (j := 1) rfl) ?_
      walk_at "go"
      refine i_append hW5 (szl (by rw [List.length_map]; exact hlW)) ?_
      walk_at "go"
      refine i_ixqT (((s5).loc nW4).sqT hE) (atI_nat (j := 0) rfl) ?_
      walk_at "go"
      walk_at "t"
      walk_at "go"
      refine ⟨_, by rw [es1, costOf_snoc]; rfl, (s5).loc nW4, ?_, ?_⟩
      · rw [es1, srcOf_snoc, List.map_append]
        exact ((upd_ne nAW).trans hA5).trans (by rw [show srcOf [[Str.ofString "put", t]] = [] from rfl, List.map_nil, List.append_nil])
      · rw [es1, tgtOf_snoc, List.map_append]
        exact upd_same
    · walk_at "go"
      refine i_ixqT ((s5).sqT hE) (atI_nat (j := 0) rfl) ?_
      walk_at "go"
      walk_at "t"
      walk_at "go"
      refine i_tyL hA5 ?_
      walk_at "go"
      refine i_ixqT ((s5).sqT hE) (atI_nat (j := 1) rfl) ?_
      walk_at "go"
      refine i_append hA5 (szl (by rw [List.length_map]; exact hlA)) ?_
      walk_at "go"
      have hA6 := upd_same (H := H') (a := A) (o := .lst ((srcOf (es.take i)).map V.str ++ [V.str t]))
      have hW6 : upd H' A (.lst ((srcOf (es.take i)).map V.str ++ [V.str t])) W = _ := (upd_ne nAW.symm).trans hW5
      refine i_ixqT ((s5.loc nA).sqT hE) (atI_nat (j := 0) rfl) ?_
      walk_at "go"
      walk_at "t"
      walk_at "go"
      refine i_tyL hW6 ?_
      walk_at "go"
      refine i_ixqT ((s5.loc nA).sqT hE) (atI_nat (j := 2) rfl) ?_
      walk_at "go"
      refine i_append hW6 (szl (by rw [List.length_map]; exact hlW)) ?_
      walk_at "go"
      refine i_ixqT (((s5.loc nA).loc nW4).sqT hE) (atI_nat (j := 0) rfl) ?_
      walk_at "go"
      walk_at "f"
      walk_at "go"
      refine i_ixqT (((s5.loc nA).loc nW4).sqT hE) (atI_nat (j := 0) rfl) ?_
      walk_at "go"
      walk_at "f"
      walk_at "go"
      refine i_ixqT (((s5.loc nA).loc nW4).sqT hE) (atI_nat (j := 0) rfl) ?_
      walk_at "go"
      walk_at "t"
      walk_at "go"
      refine ⟨_, by rw [es1, costOf_snoc]; rfl, (s5.loc nA).loc nW4, ?_, ?_⟩
      · rw [es1, srcOf_snoc, List.map_append]
        exact (upd_ne nAW).trans hA6
      · rw [es1, tgtOf_snoc, List.map_append]
        exact upd_same
  · rintro σ H' ⟨y7, rfl, s5, hA5, hW5⟩
    rw [hp4.length, List.take_length] at hA5 hW5
    rw [hp4.length, List.take_length]
    have he5 : es.length ≤ 5000 := by omega
    have zs := src_len hp4
    have zt := tgt_len hp4
    have l1 := src_le es
    have l2 := tgt_le es
    have G4 : ∀ {H'' : Hp} {b : Addr}, Same H4 H'' → Sq K H'' b xs → GsV K H'' (.ref b) es := fun s hb => ⟨_, xs, rfl, hb, paired_imp (fun _ _ h => h.same s) hp4, he5⟩
    walk_at "go"
    -- due
    refine i_tupOfL (sqL hA5) fun t1 n1 => ?_
    have s6 := s5.trans (Same.new (o := .tup ((srcOf es).map V.str)) n1)
    have ht1 : upd H' t1 (.tup ((srcOf es).map V.str)) t1 = _ := upd_same
    have hW6 := (Same.new (o := .tup ((srcOf es).map V.str)) n1) _ _ hW5
    generalize upd H' t1 (.tup ((srcOf es).map V.str)) = H6 at s6 ht1 hW6 ⊢
    walk_at "go"
    refine i_tupOfL (sqL hW6) fun t2 n2 => ?_
    have s67 := Same.new (o := .tup ((tgtOf es).map V.str)) n2
    have s7 := s6.trans s67
    have ht2 : upd H6 t2 (.tup ((tgtOf es).map V.str)) t2 = _ := upd_same
    have ht1 := s67 _ _ ht1
    generalize upd H6 t2 (.tup ((tgtOf es).map V.str)) = H7 at s7 ht1 ht2 s67 ⊢
    walk_at "go"
    refine i_new (by simp) fun dL nD => ?_
    have s78 := Same.new (o := .lst [V.ref t1, V.ref t2, V.int (costOf es : Nat)]) nD
    have s8 := s7.trans s78
    have hD : upd H7 dL (.lst [V.ref t1, V.ref t2, V.int (costOf es : Nat)]) dL = _ := upd_same
    have ht1 := s78 _ _ ht1
    have ht2 := s78 _ _ ht2
    generalize upd H7 dL (.lst [V.ref t1, V.ref t2, V.int (costOf es : Nat)]) = H8 at s8 hD ht1 ht2 ⊢
    walk_at "go"
    -- handed
    refine i_listOf (.inl (sqL (s8 _ _ hR4))) fun hd nH => ?_
    have s89 := Same.new (o := .lst xs) nH
    have s9 := s8.trans s89
    have hH : upd H8 hd (.lst xs) hd = _ := upd_same
    have hD := s89 _ _ hD
    have ht1 := s89 _ _ ht1
    have ht2 := s89 _ _ ht2
    generalize upd H8 hd (.lst xs) = H9 at s9 hH hD ht1 ht2 ⊢
    clear s8 s89 nH s78 nD s7 s67 n2 s6 hW6 n1 hA5 hW5 s5
    walk_at "go"
    -- heard
    refine ⟨es, G4 s9 (.inl (sqL hH)), fun H10 u1 sa _ hu1 => ?_⟩
    walk_at "go"
    refine ⟨es, G4 (s9.trans sa) (.inl (sqL (sa _ _ hH))), fun H11 u2 sb _ hu2 => ?_⟩
    walk_at "go"
    refine ⟨es, G4 ((s9.trans sa).trans sb) (.inl (sqL (sb _ _ (sa _ _ hH)))), fun H12 sc => ?_⟩
    walk_at "go"
    refine i_new (by simp) fun hL nL => ?_
    have sd := Same.new (o := .lst [V.ref u1, V.ref u2, V.int (costOf es : Nat)]) nL
    have hHe : upd H12 hL (.lst [V.ref u1, V.ref u2, V.int (costOf es : Nat)]) hL = _ := upd_same
    generalize upd H12 hL (.lst [V.ref u1, V.ref u2, V.int (costOf es : Nat)]) = H13 at sd hHe ⊢
    have s13 := ((sa.trans sb).trans sc).trans sd
    have hu1 := sd _ _ (sc _ _ (sb _ _ hu1))
    have hu2 := sd _ _ (sc _ _ hu2)
    have hH := s13 _ _ hH
    have hD := s13 _ _ hD
    have ht1 := s13 _ _ ht1
    have ht2 := s13 _ _ ht2
    have s9 := s9.trans s13
    clear s13 sd sc sb sa nL
    walk_at "go"
    -- again
    refine i_tupOfL (sqL (s9 _ _ hR4)) fun e1 ne1 => ?_
    have sa := Same.new (o := .tup xs) ne1
    walk_at "go"
    refine ⟨es, G4 (s9.trans sa) (.inr (sqT upd_same)), fun H14 sb => ?_⟩
    walk_at "go"
    refine i_tupOfL (sqL (sb _ _ (sa _ _ (s9 _ _ hR4)))) fun e2 ne2 => ?_
    have sc := Same.new (o := .tup xs) ne2
    walk_at "go"
    refine ⟨es, G4 (((s9.trans sa).trans sb).trans sc) (.inr (sqT upd_same)), fun H15 w2 sd _ hw2 => ?_⟩
    walk_at "go"
    have s15 := ((sa.trans sb).trans sc).trans sd
    refine i_tupOfL (sqL (s15 _ _ (s9 _ _ hR4))) fun e3 ne3 => ?_
    have se := Same.new (o := .tup xs) ne3
    walk_at "go"
    refine ⟨es, G4 ((s9.trans s15).trans se) (.inr (sqT upd_same)), fun H16 w1 sf _ hw1 => ?_⟩
    walk_at "go"
    refine i_new (by simp) fun aL nA2 => ?_
    have sg := Same.new (o := .lst [V.int (costOf es : Nat), V.ref w2, V.ref w1]) nA2
    have hAg : upd H16 aL (.lst [V.int (costOf es : Nat), V.ref w2, V.ref w1]) aL = _ := upd_same
    generalize upd H16 aL (.lst [V.int (costOf es : Nat), V.ref w2, V.ref w1]) = H17 at sg hAg ⊢
    have s17 := (s15.trans se).trans (sf.trans sg)
    have hw2 := sg _ _ (sf _ _ (se _ _ hw2))
    have hw1 := sg _ _ hw1
    have hu1 := s17 _ _ hu1
    have hu2 := s17 _ _ hu2
    have hH := s17 _ _ hH
    have hD := s17 _ _ hD
    have ht1 := s17 _ _ ht1
    have ht2 := s17 _ _ ht2
    have hHe := s17 _ _ hHe
    have s9 := s9.trans s17
    walk_at "go"
    -- the end
    refine ⟨deq3 hHe hD (deq_strs hu1 ht1 (by omega) zs) (deq_strs hu2 ht2 (by omega) zt) deq_int, fun H18 sh => ?_⟩
    walk_at "go"
    refine ⟨dL, _, rfl, sqL (sh _ _ hD), fun rL nR2 => ?_⟩
    have si := sh.trans (Same.new (o := .lst [V.ref t1, V.ref t2, V.int (costOf es : Nat)].reverse) nR2)
    have hRv : upd H18 rL (.lst [V.ref t1, V.ref t2, V.int (costOf es : Nat)].reverse) rL = some (.lst [V.int (costOf es : Nat), V.ref t2, V.ref t1]) := upd_same
    generalize upd H18 rL (.lst [V.ref t1, V.ref t2, V.int (costOf es : Nat)].reverse) = H19 at si hRv ⊢
    walk_at "go"
    refine ⟨deq3 (si _ _ hAg) hRv deq_int (deq_strs (si _ _ hw2) (si _ _ ht2) (by omega) zt) (deq_strs (si _ _ hw1) (si _ _ ht1) (by omega) zs), fun H20 sj => ?_⟩
    walk_at "go"
    refine i_eqVL (n := 1) (sqL (sj _ _ (si _ _ hH))) (sqL (sj _ _ (si _ _ (s9 _ _ hR4)))) (by decide) (paired_self fun x hx => ?_) (q _)
    obtain ⟨_, e, rfl, _⟩ := paired_left hp4 hx
    exact .inr (.inl ⟨e, rfl, rfl⟩)

end
def d_is_items : He.DefD := ⟨("is_items", none), "is_items", "is_items", defArgs s_is_items, defBody s_is_items, defScope s_is_items, [], []⟩
def d_is_name : He.DefD := ⟨("is_name", none), "is_name", "is_name", defArgs s_is_name, defBody s_is_name, defScope s_is_name, [], []⟩
def d_is_edit : He.DefD := ⟨("is_edit", none), "is_edit", "is_edit", defArgs s_is_edit, defBody s_is_edit, defScope s_is_edit, [], []⟩
def d_bad_edit : He.DefD := ⟨("bad_edit", none), "bad_edit", "bad_edit", defArgs s_bad_edit, defBody s_bad_edit, defScope s_bad_edit, [], []⟩
def d_need_script : He.DefD := ⟨("need_script", none), "need_script", "need_script", defArgs s_need_script, defBody s_need_script, defScope s_need_script, [], []⟩
def d_source : He.DefD := ⟨("source", none), "source", "source", defArgs s_source, defBody s_source, defScope s_source, [], []⟩
def d_target : He.DefD := ⟨("target", none), "target", "target", defArgs s_target, defBody s_target, defScope s_target, [], []⟩
def d_cost : He.DefD := ⟨("cost", none), "cost", "cost", defArgs s_cost, defBody s_cost, defScope s_cost, [], []⟩
def d__law_purse : He.DefD := ⟨("_law_purse", none), "_law_purse", "_law_purse", defArgs s__law_purse, defBody s__law_purse, defScope s__law_purse, [], []⟩
def d__law_draw : He.DefD := ⟨("_law_draw", none), "_law_draw", "_law_draw", defArgs s__law_draw, defBody s__law_draw, defScope s__law_draw, [], []⟩
def d__law_name : He.DefD := ⟨("_law_name", none), "_law_name", "_law_name", defArgs s__law_name, defBody s__law_name, defScope s__law_name, [], []⟩
def d__law_names : He.DefD := ⟨("_law_names", none), "_law_names", "_law_names", defArgs s__law_names, defBody s__law_names, defScope s__law_names, [], []⟩
def d__law_script : He.DefD := ⟨("_law_script", none), "_law_script", "_law_script", defArgs s__law_script, defBody s__law_script, defScope s__law_script, [], []⟩
def d__law_same : He.DefD := ⟨("_law_same", none), "_law_same", "_law_same", defArgs s__law_same, defBody s__law_same, defScope s__law_same, [], []⟩
def d_law : He.DefD := ⟨("law", none), "law", "law", defArgs s_law, defBody s_law, defScope s_law, [], []⟩
def fn : List He.DefD := [d_is_items, d_is_name, d_is_edit, d_bad_edit, d_need_script, d_source, d_target, d_cost, d__law_purse, d__law_draw, d__law_name, d__law_names, d__law_script, d__law_same, d_law]
def fa : List He.Fa := [.glo "is_items", .glo "is_name", .glo "is_edit", .glo "bad_edit", .glo "need_script", .glo "source", .glo "target", .glo "cost", .glo "_law_purse", .glo "_law_draw", .glo "_law_name", .glo "_law_names", .glo "_law_script", .glo "_law_same", .glo "law", .free "abs", .free "all", .free "bool", .free "dict", .free "enumerate", .free "int", .free "isinstance", .free "len", .free "list", .free "range", .free "str", .free "tuple", .str "LETTERS" "abcdefghijklmnopqrstuvwxyz", .int "MOST_EDITS" 5000]
abbrev R : PySem.W.OpenRow := PySem.W.OpenLaw.row PySem.Challenge.rw_slipstold_k12_script_sums
abbrev hk : PySem.W.Hook := He.hookD 6 fa fn
def ob (s : PySem.W.SharedT) : He.AlD := He.obsDG 6 fa fn (HandSHeadRun.getT s)
theorem ob_eq (s : PySem.W.SharedT) : ob s = hk.obs s.abs := He.obsDG_eq (HandSHeadRun.getT_eq s)
def loose : List Str := ["SlipError", "BadScript", "is_items", "is_name", "is_edit", "bad_edit", "need_script", "source", "target", "cost", "_law_purse", "_law_draw", "_law_name", "_law_names", "_law_script", "_law_same", "LETTERS", "MOST_EDITS"]
theorem run (w : World) : HandSHeadRun.RunEq R (PySem.W.view R.prog [22]) hk ob 6000 loose w := by
  intro os
  kernel_rfl
theorem bs_mk {K : PySem.W.Frag} {h : Heap} {mg : Str → Option Value} (X : K.In h) (G : h.Ns mainGlobals mg) (c : He.SaysD fa fn K) : Bs mg where
  b_abs := He.free_ok X G (c.fact 15 (f := .free "abs") rfl)
  b_all := He.free_ok X G (c.fact 16 (f := .free "all") rfl)
  b_bool := He.free_ok X G (c.fact 17 (f := .free "bool") rfl)
  b_dict := He.free_ok X G (c.fact 18 (f := .free "dict") rfl)
  b_enumerate := He.free_ok X G (c.fact 19 (f := .free "enumerate") rfl)
  b_int := He.free_ok X G (c.fact 20 (f := .free "int") rfl)
  b_isinstance := He.free_ok X G (c.fact 21 (f := .free "isinstance") rfl)
  b_len := He.free_ok X G (c.fact 22 (f := .free "len") rfl)
  b_list := He.free_ok X G (c.fact 23 (f := .free "list") rfl)
  b_range := He.free_ok X G (c.fact 24 (f := .free "range") rfl)
  b_str := He.free_ok X G (c.fact 25 (f := .free "str") rfl)
  b_tuple := He.free_ok X G (c.fact 26 (f := .free "tuple") rfl)
  x_LETTERS := by
    obtain ⟨t, e⟩ := He.str_ok X G (c.fact 27 (f := .str "LETTERS" "abcdefghijklmnopqrstuvwxyz") rfl)
    exact ⟨_, e, t, rfl⟩
  x_MOST_EDITS := by
    obtain ⟨t, e⟩ := He.int_ok X G (c.fact 28 (f := .int "MOST_EDITS" 5000) rfl)
    exact ⟨_, e, t, rfl⟩
theorem facts {P : Program} {w : World} {K : PySem.W.Frag} {h : Heap} {mg : Str → Option Value} {f : Addr} (X : K.In h) (G : h.Ns mainGlobals mg) (hfa : mg ("law" : Str) = some (.ref f)) (c : He.SaysD fa fn K) :
    ∃ fd : FuncData, (∀ (s : Shared) (v : Value), BindsTo s fd ⟨[v], []⟩ [("_law_script_here", v)]) ∧ ∀ base : Heap, K.In base → base.Ns mainGlobals mg → FnOk P w K mg base CX0 6 f fd ["_law_script_here"] (spLaw K) := by
  obtain ⟨fd_is_items, D_is_items⟩ := c.def_ 0 (d := d_is_items) rfl
  have F_is_items := fun_of (st := s_is_items) D_is_items
  have g_is_items := He.glo_ok X G (c.fact 0 (f := .glo "is_items") rfl)
  obtain ⟨fd_is_name, D_is_name⟩ := c.def_ 1 (d := d_is_name) rfl
  have F_is_name := fun_of (st := s_is_name) D_is_name
  have g_is_name := He.glo_ok X G (c.fact 1 (f := .glo "is_name") rfl)
  obtain ⟨fd_is_edit, D_is_edit⟩ := c.def_ 2 (d := d_is_edit) rfl
  have F_is_edit := fun_of (st := s_is_edit) D_is_edit
  have g_is_edit := He.glo_ok X G (c.fact 2 (f := .glo "is_edit") rfl)
  obtain ⟨fd_bad_edit, D_bad_edit⟩ := c.def_ 3 (d := d_bad_edit) rfl
  have F_bad_edit := fun_of (st := s_bad_edit) D_bad_edit
  have g_bad_edit := He.glo_ok X G (c.fact 3 (f := .glo "bad_edit") rfl)
  obtain ⟨fd_need_script, D_need_script⟩ := c.def_ 4 (d := d_need_script) rfl
  have F_need_script := fun_of (st := s_need_script) D_need_script
  have g_need_script := He.glo_ok X G (c.fact 4 (f := .glo "need_script") rfl)
  obtain ⟨fd_source, D_source⟩ := c.def_ 5 (d := d_source) rfl
  have F_source := fun_of (st := s_source) D_source
  have g_source := He.glo_ok X G (c.fact 5 (f := .glo "source") rfl)
  obtain ⟨fd_target, D_target⟩ := c.def_ 6 (d := d_target) rfl
  have F_target := fun_of (st := s_target) D_target
  have g_target := He.glo_ok X G (c.fact 6 (f := .glo "target") rfl)
  obtain ⟨fd_cost, D_cost⟩ := c.def_ 7 (d := d_cost) rfl
  have F_cost := fun_of (st := s_cost) D_cost
  have g_cost := He.glo_ok X G (c.fact 7 (f := .glo "cost") rfl)
  obtain ⟨fd__law_purse, D__law_purse⟩ := c.def_ 8 (d := d__law_purse) rfl
  have F__law_purse := fun_of (st := s__law_purse) D__law_purse
  have g__law_purse := He.glo_ok X G (c.fact 8 (f := .glo "_law_purse") rfl)
  obtain ⟨fd__law_draw, D__law_draw⟩ := c.def_ 9 (d := d__law_draw) rfl
  have F__law_draw := fun_of (st := s__law_draw) D__law_draw
  have g__law_draw := He.glo_ok X G (c.fact 9 (f := .glo "_law_draw") rfl)
  obtain ⟨fd__law_name, D__law_name⟩ := c.def_ 10 (d := d__law_name) rfl
  have F__law_name := fun_of (st := s__law_name) D__law_name
  have g__law_name := He.glo_ok X G (c.fact 10 (f := .glo "_law_name") rfl)
  obtain ⟨fd__law_names, D__law_names⟩ := c.def_ 11 (d := d__law_names) rfl
  have F__law_names := fun_of (st := s__law_names) D__law_names
  have g__law_names := He.glo_ok X G (c.fact 11 (f := .glo "_law_names") rfl)
  obtain ⟨fd__law_script, D__law_script⟩ := c.def_ 12 (d := d__law_script) rfl
  have F__law_script := fun_of (st := s__law_script) D__law_script
  have g__law_script := He.glo_ok X G (c.fact 12 (f := .glo "_law_script") rfl)
  obtain ⟨fd__law_same, D__law_same⟩ := c.def_ 13 (d := d__law_same) rfl
  have F__law_same := fun_of (st := s__law_same) D__law_same
  have g__law_same := He.glo_ok X G (c.fact 13 (f := .glo "_law_same") rfl)
  obtain ⟨fd_law, D_law⟩ := c.def_ 14 (d := d_law) rfl
  have F_law := fun_of (st := s_law) D_law
  have g_law := He.glo_ok X G (c.fact 14 (f := .glo "law") rfl)
  have B := bs_mk X G c
  have e := hfa.symm.trans g_law
  cases e
  have b := FunD.bindsA (ps := ["_law_script_here"]) D_law fun _ _ _ _ _ _ us hl => match us, hl with | [_], _ => rfl
  refine ⟨fd_law, fun s v => b s [v] rfl, fun base _ _ => ?_⟩
  have c_is_items := ok_is_items (P := P) (w := w) (base := base) (k := 0) F_is_items g_is_items B 
  have c_is_name := ok_is_name (P := P) (w := w) (base := base) (k := 0) F_is_name g_is_name B 
  have c_is_edit := ok_is_edit (P := P) (w := w) (base := base) (k := 1) F_is_edit g_is_edit B (Cal.mono c_is_name (by decide))
  have c_bad_edit := ok_bad_edit (P := P) (w := w) (base := base) (k := 2) F_bad_edit g_bad_edit B (Cal.mono c_is_items (by decide)) (Cal.mono c_is_edit (by decide))
  have c_need_script := ok_need_script (P := P) (w := w) (base := base) (k := 3) F_need_script g_need_script B (Cal.mono c_bad_edit (by decide))
  have c_source := ok_source (P := P) (w := w) (base := base) (k := 4) F_source g_source B (Cal.mono c_need_script (by decide))
  have c_target := ok_target (P := P) (w := w) (base := base) (k := 4) F_target g_target B (Cal.mono c_need_script (by decide))
  have c_cost := ok_cost (P := P) (w := w) (base := base) (k := 4) F_cost g_cost B (Cal.mono c_need_script (by decide))
  have c__law_purse := ok__law_purse (P := P) (w := w) (base := base) (k := 0) F__law_purse g__law_purse B 
  have c__law_draw := ok__law_draw (P := P) (w := w) (base := base) (k := 0) F__law_draw g__law_draw B 
  have c__law_name := ok__law_name (P := P) (w := w) (base := base) (k := 1) F__law_name g__law_name B (Cal.mono c__law_draw (by decide))
  have c__law_names := ok__law_names (P := P) (w := w) (base := base) (k := 2) F__law_names g__law_names B (Cal.mono c__law_draw (by decide)) (Cal.mono c__law_name (by decide))
  have c__law_script := ok__law_script (P := P) (w := w) (base := base) (k := 1) F__law_script g__law_script B (Cal.mono c__law_draw (by decide))
  have c__law_same_0 : C8.Cal P w K mg base 1 "_law_same" (spSame K 0) [] := cal_none F__law_same g__law_same (F__law_same.binds (ps := P__law_same) fun _ _ _ _ _ _ us hl => match us, hl with | [_, _], _ => rfl) (fun _ _ _ _ ⟨_, _, _, h, _⟩ => h)
  have c__law_same_1 := ok__law_same (P := P) (w := w) (base := base) (n := 0) F__law_same g__law_same B  c__law_same_0
  have c__law_same_2 := ok__law_same (P := P) (w := w) (base := base) (n := 1) F__law_same g__law_same B  c__law_same_1
  have c__law_same_3 := ok__law_same (P := P) (w := w) (base := base) (n := 2) F__law_same g__law_same B  c__law_same_2
  have c__law_same := c__law_same_3
  exact ok_law (k := 5) F_law B (Cal.mono c__law_purse (by decide)) (Cal.mono c__law_names (by decide)) (Cal.mono c__law_draw (by decide)) (Cal.mono c__law_script (by decide)) (Cal.mono c_source (by decide)) (Cal.mono c_target (by decide)) (Cal.mono c_cost (by decide)) (Cal.mono c__law_same (by decide))
end My
open PySem PySem.W PySem.Calls PyProof.Rows
set_option maxRecDepth 100000 in
set_option maxHeartbeats 0 in
theorem PySem.Challenge.cw_slipstold_k12_script_sums_holds : PySem.Challenge.rw_slipstold_k12_script_sums.Holds := by
  w_on; o_law
  refine HandSHeadRun.head_any (r := OpenLaw.row PySem.Challenge.rw_slipstold_k12_script_sums) (q := view (OpenLaw.row PySem.Challenge.rw_slipstold_k12_script_sums).prog [22]) (H := My.hk) (ob := My.ob) (M := 6000) (loose := My.loose) (d := HandSHeadRun.topDef (OpenLaw.row PySem.Challenge.rw_slipstold_k12_script_sums).prog 22) (kwd := []) My.ob_eq
    (by kernel_rfl) (fun s => by kernel_rfl) My.run (by kernel_rfl) (by kernel_rfl) (by kernel_rfl) (by rfl) (by first | assumption | decide +kernel) (by decide +kernel) ⟨rfl, rfl, rfl, rfl, rfl, by decide +kernel⟩ ?hw ?hc
  case hw => w_witness2
  case hc =>
    refine L2.walk_ofE (l := PySem.Challenge.rw_slipstold_k12_script_sums) (n := 63) (k := 6) (x := "_law_script_here") (CX := L2.CX0) rfl (by decide) (by kernel_rfl) ⟨rfl, by decide, by decide⟩ ?F (fun _ _ _ _ z => z)
    intro w mg fa h Y G hmg0
    obtain ⟨K, KX, c⟩ := Y
    have hmg : mg ("law" : PySem.Str) = some (.ref fa) := by
      have e : (HandSHeadRun.topDef (OpenLaw.row PySem.Challenge.rw_slipstold_k12_script_sums).prog 22).name = ("law" : PySem.Str) := by kernel_rfl
      rw [← e]
      exact hmg0
    obtain ⟨fd, hb, hF⟩ := My.facts (P := (PySem.Challenge.rw_slipstold_k12_script_sums).prog) (w := w) KX G hmg c
    exact ⟨K, fd, My.spLaw K, KX, hb, fun H a ns hl _ hS => ⟨.ref a, rfl, a, ns, rfl, hS, fun _ => rfl⟩, hF⟩
