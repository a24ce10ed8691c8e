import PyProof.Rows.All
import Wide.All
import OpenK.AllK
import Wide.FinOn
import KE.GoesEnum
import HandS.ForMost
import HandS.IsInst
import HandS.Codes
import HandS.Wide
import HandS.Flow
import HandS.Style
import HandS.Conv
import HandS.TupAny
import HandS.DeepEq
import KE.KStateDown
import HandS.More
import HandS.WordsExc
import HandS.Defaults
import HandS.Head0
import HandS.Head1
import HandS.Head2
import HandS.HeadEnd
import HandS.HeadHook1
import HandS.HeadHook2
import KE.SortData
import HandS.Star
import HandS.Property
import HandS.Set
import HandS.Strs
import HandS.SetFor
import HandS.DictComp
import HandS.Finally
import HandS.TupLen
import KE.KDictCopyH
import HandS.Walk
import PySem.Str
import HandS.Nested
import HandS.ExcInit
import HandS.ExcField
import HandS.ExcIs
import KE.KExcSuper
import PySem.Challenge.RW_slipstold_k13_bad_scripts
import PyProof.Rows.Walk
import HandS.TupSets
import KE.KDictKeyed
import HandS.SetKeys
import PyProof.SetRoads
import KE.KSetDisp
import HandS.DictEq
import HandS.OwnEq
import PyProof.DictMoreH
import HandS.MakeKwOnly
import KE.KDictWalk
import OpenK.KMeth
import KE.DataMinMax
import KE.DataCmp
import HandS.TupMul
import HandS.Text
import KE.DataEq
import PyProof.DictUpdate
import PyProof.IsRules
import KE.KDictDisplayH
import HandS.ExcOwn
import HandS.TryOnly
import KE.KExcIs
import HandS.TryMany
section
set_option Elab.async false
set_option Elab.async false
set_option linter.all false
set_option maxRecDepth 100000
set_option maxHeartbeats 4000000
namespace PySem
open Sem (wp)
theorem meets_enumerate_new1 {v : Value} {o : Obj} {H : Heap → Prop} (B : Begins v o H) :
    Meets (Builtin.«enumerate.__new__» ⟨[.type "enumerate", v], []⟩) (fun _ R s => H s.heap ∧
      R (.ok (.ret (.ref (s.heap.push o).objs.size))) { s with heap := (s.heap.push o).push { cls := .type "enumerate", data := .fields #[.none, .bool false, .ref s.heap.objs.size, rawInt 0, .none, .none] } }) :=
  .of_wp fun prog w A R s h => by
    obtain ⟨hp, g, d, tk, os⟩ := s; obtain ⟨h1, h⟩ := h
    have hsub := sub_enumerate
    have q1 : ∀ {A' : Around} {E : Value → Shared → Prop} {Q : Value → Shared → Prop}, Q (.ref hp.objs.size) ⟨hp.push o, g, d, tk, os⟩ → wpAny (model prog w) A' (pyIter v) Q E ⟨hp, g, d, tk, os⟩ :=
      fun q => B.iter prog w _ _ ⟨hp, g, d, tk, os⟩ _ h1 q
    wp_walk using q1
    refine wpAny_stack_any fun st => wpAny_pure ?_
    split
    · rename_i c _ _ _ _ _
      cases (c == Value.type "enumerate")
      · wp_walk using q1
        exact ⟨_, rfl, h⟩
      · wp_walk using q1
        exact ⟨_, rfl, h⟩
    · wp_walk using q1
      exact ⟨_, rfl, h⟩
section
variable {prog : Program} {w : World} {A : Around} {E : Value → Shared → Prop} {s : Shared}
theorem enum_begins1 {v : Value} {o : Obj} {H : Heap → Prop} {Q : Value → Shared → Prop} (B : Begins v o H) (h1 : H s.heap)
    (h : ∀ h', IsEnum h' (s.heap.objs.size + 1) s.heap.objs.size 0 .none → h'.get? s.heap.objs.size = some o → h'.objs.size = s.heap.objs.size + 2 →
      (∀ b o, s.heap.get? b = some o → h'.get? b = some o) → Q (.ref (s.heap.objs.size + 1)) { s with heap := h' }) :
    wpAny (model prog w) A (call (.type "enumerate") [v]) Q E s := by
  refine callType_new F.called_enumerate (by decide) (F.typeCall_enumerate_1 _) (F.newCall_enumerate_1 _) (fun obj => F.args_object_init_2 obj _) F.entry_enumerate_new
    (meets_enumerate_new1 B) ⟨h1, ?_⟩
  have hz : (s.heap.push o).objs.size = s.heap.objs.size + 1 := Heap.size_push ..
  show _ ∧ _
  rw [hz]
  have he : IsEnum ((s.heap.push o).push { cls := .type "enumerate", data := .fields #[.none, .bool false, .ref s.heap.objs.size, rawInt 0, .none, .none] }) (s.heap.objs.size + 1) s.heap.objs.size 0 .none := by
    have := Heap.get?_push_size (s.heap.push o) (o := { cls := .type "enumerate", data := .fields #[.none, .bool false, .ref s.heap.objs.size, rawInt 0, .none, .none] }) rfl
    rw [hz] at this; exact this
  refine ⟨⟨_, he, rfl⟩, h _ he (Heap.get?_push_of_some _ (Heap.get?_push_size _ B.free)) (by rw [Heap.size_push, hz]) fun b o x => Heap.get?_push_of_some _ (Heap.get?_push_of_some _ x)⟩
end
end PySem
namespace L2
open PySem PySem.Spec PyProof.Rows
/-- a list or a tuple of xs -/
def Sq (K : PySem.W.Frag) (H : Hp) (a : Addr) (xs : List V) : Prop := SqL K H a xs ∨ SqT K H a xs
theorem SqL.keep {K : PySem.W.Frag} {H H' : Hp} {a : Addr} {xs : List V} (e : ∀ o, H a = some o → H' a = some o) (h : SqL K H a xs) : SqL K H' a xs := by
  rcases h with (h | ⟨o, h⟩) | h
  · exact .inl (.inl (e _ h))
  · exact .inl (.inr ⟨o, e _ h⟩)
  · exact .inr h
theorem SqT.keep {K : PySem.W.Frag} {H H' : Hp} {a : Addr} {xs : List V} (e : ∀ o, H a = some o → H' a = some o) (h : SqT K H a xs) : SqT K H' a xs := by
  rcases h with (h | ⟨o, h⟩) | h
  · exact .inl (.inl (e _ h))
  · exact .inl (.inr ⟨o, e _ h⟩)
  · exact .inr h
theorem Sq.keep {K : PySem.W.Frag} {H H' : Hp} {a : Addr} {xs : List V} (e : ∀ o, H a = some o → H' a = some o) (h : Sq K H a xs) : Sq K H' a xs := h.imp (SqL.keep e) (SqT.keep e)
def Ittn (K : PySem.W.Frag) (a : Addr) : It :=
  ⟨fun i H => ∃ (xs : List V) (x : V), SqT K H a xs ∧ xs[i]? = some x, fun i H v H' => ∃ T x, v = .ref T ∧ H T = none ∧ H' = upd H T (.tup [.int (i : Nat), x]) ∧ ∀ xs, SqT K H a xs → xs[i]? = some x, fun i H => ∃ xs : List V, SqT K H a xs ∧ xs.length = i⟩
theorem turn_enumT {P : Program} {w : World} {K : PySem.W.Frag} {elts : List Expr} {kk : Nat} {tpos : Pos} (a e it : Addr) :
    Turn P w K (.Tuple elts kk tpos) (Ittn K a) [e, it] e (fun i h => (∃ old, IsEnum h e it ((i : Nat) : Int) old) ∧ h.IsTupleIter it a i ∧ e ≠ it ∧ a ≠ it ∧ a ≠ e) where
  mem := by simp
  obj := fun i h st b hb => by
    obtain ⟨⟨old, he⟩, ⟨o, ho, hc, hd⟩, _⟩ := st
    have e' : b = e ∨ b = it := by simpa using hb
    rcases e' with z | z
    · rw [z]; exact ⟨_, he, fun v q => nomatch q⟩
    · rw [z]; exact ⟨o, ho, fun v q => by rw [hd] at q; cases q⟩
  keep := fun i h h' st k => let ⟨⟨old, he⟩, hi, hne⟩ := st; ⟨⟨old, k e (by simp) _ he⟩, hi.at fun o q => k it (by simp) o q, hne⟩
  item := by
    intro X hP hw hK hc i pins s σ H E I hf st hg
    subst hP hw hK
    obtain ⟨⟨old, he⟩, hit, hne, hai, hae⟩ := st
    obtain ⟨xs, x, hq, hx⟩ := hg
    obtain ⟨its, rv, p, hz⟩ := I.tuple hq
    obtain ⟨u, hu, ru⟩ := rv.get hx
    have hel : e < s.heap.objs.size := Heap.lt_size he
    have hil : it < s.heap.objs.size := by obtain ⟨_, q, _⟩ := hit; exact Heap.lt_size q
    have p' : s.heap.IsTuple a its.toArray := p
    have D := Draws.tuple (prog := X.prog) (w := X.w) (A := X.A.in1) (I.ok.hd hc) it a hai its.toArray
    have hlt : i < its.toArray.size := by
      have := List.getElem?_eq_some_iff.mp hu
      obtain ⟨z, _⟩ := this
      simpa using z
    refine wpAny_pyNext_enum_itemD D he ⟨hit, p'⟩ hlt hne (by simp; exact ⟨hne, Ne.symm hae⟩) fun x' h' tk hP ho hst' hT hsz hk => ?_
    have ex : x' = u := by
      have q : its.toArray[i]? = some u := by simpa using hu
      exact Option.some.inj (hP.symm.trans q)
    subst ex
    refine ⟨_, rfl, wpAny_letOwnedTupleGo_enum (s := { s with heap := h', toks := tk + 1 }) ho fun h'' he' sb => ?_⟩
    have hT2 : h''.get? s.heap.objs.size = some { cls := .type "tuple", data := .seq #[.int i tk, x'] } := (sb.2 _ (Nat.ne_of_gt hel)).trans hT
    have new : ObjOk X.prog X.w (upd H s.heap.objs.size (.tup [.int (i : Nat), x])) h'' s.heap.objs.size (.tup [.int (i : Nat), x]) :=
      ⟨by show 2 ≤ sizeLine; decide, [.int i tk, x'], .cons ⟨_, rfl⟩ (.cons ru .nil), ⟨_, hT2, rfl, _, rfl⟩⟩
    have I1 : Inv X pins σ (upd H s.heap.objs.size (.tup [.int (i : Nat), x])) { s with heap := h'', toks := tk + 1 } :=
      I.turnedNew (ch := [e, it]) (fun b ob hb q => (sb.2 b (fun z => hb (by simp [z]))).trans (hk b ob (fun z => hb (by simp [z])) (fun z => hb (by simp [z])) q)) hf (Nat.le_refl _) new
    refine ⟨.ref s.heap.objs.size, _, I1, rfl, ⟨_, x, rfl, I.hok.fresh (Nat.le_refl _), rfl, fun ys hy => by rw [I.tuple_inj hy hq]; exact hx⟩, ⟨⟨x', ?_⟩, hst'.1.at fun o q => (sb.2 it (Ne.symm hne)).trans q, hne, hai, hae⟩, fun b hb => ?_⟩
    · have e1 : ((i + 1 : Nat) : Int) = (i : Int) + 1 := by omega
      rw [e1]; exact he'
    · have hb' : b < s.heap.objs.size := by
        have e' : b = e ∨ b = it := by simpa using hb
        rcases e' with z | z
        · rw [z]; exact hel
        · rw [z]; exact hil
      rw [upd_ne (Nat.ne_of_lt hb')]
      exact (hf b hb).1
  done := by
    intro X hP hw hK hc i pins s σ H E I hf st hg
    subst hP hw hK
    obtain ⟨⟨old, he⟩, hit, hne, hai, hae⟩ := st
    obtain ⟨xs, hq, hx⟩ := hg
    obtain ⟨its, rv, p, hz⟩ := I.tuple hq
    obtain ⟨f0, f1, f2, f3, f4, f5⟩ := hf it (by simp)
    have hl := rv.length
    have p' : s.heap.IsTuple a its.toArray := p
    have D := Draws.tuple (prog := X.prog) (w := X.w) (A := X.A.in1) (I.ok.hd hc) it a hai its.toArray
    have ei : i = its.toArray.size := by simp; omega
    subst ei
    exact wpAny_pyNext_enum_endD D he ⟨hit, p'⟩ fun h' eb => ⟨rfl, I.turned (t' := s.toks) (fun b o hb q => eb b o hb q) f0 f1 f3 f4 f5⟩
  self := fun A i s Q E st h => let ⟨⟨_, he⟩, _⟩ := st; wpAny_pyIter_enum he h
/-- enumerate(q), q a list or a tuple -/
def iEnumS (K : PySem.W.Frag) (ta : TA) : TI := fun σ H R => ta σ H fun vs H1 => ∃ a, vs = [.ref a] ∧ (((∃ xs, SqL K H1 a xs) ∧ R (Ite K a) H1) ∨ ((∃ xs, SqT K H1 a xs) ∧ R (Ittn K a) H1))
theorem pi_enumS {X : Cx} {e : Expr} {ta : TA} {p pos tpos : Pos} {elts : List Expr} {kk : Nat} (hg : Gl X "enumerate") (hm : X.mg "enumerate" = none) (ha : PA X [e] ta) (hs : starEach [e] X.env = [(false, eval e X.env)] := by rfl) :
    PI X (.Tuple elts kk tpos) (.Call (.Name "enumerate" p) [e] [] pos) (iEnumS X.K ta) := by
  refine ⟨fun pins s σ H R I h => ?_⟩
  refine Call_ (ld_blt I hg hm boot_enumerate (PyProof.Rows.callWith_type1 (thn (ha.run pos pins s σ H _ I h) fun us s1 ⟨vs, H1, I1, r1, q1⟩ => ?_) hs rfl))
  obtain ⟨a, ex, q1⟩ := q1
  subst ex
  cases r1 with
  | cons r rr =>
    cases rr
    cases r
    rcases q1 with ⟨⟨xs, hq⟩, q⟩ | ⟨⟨xs, hq⟩, q⟩
    · obtain ⟨its, rv, p', hz⟩ := I1.list hq
      refine call_enumerate_list p'.isList fun h' he hit hsz hk => wpAny_pyIter_enum he ?_
      have I2 : Inv X pins σ H1 { s1 with heap := h' } := I1.kept (t' := s1.toks) hk
      refine ⟨s1.heap.objs.size + 1, [s1.heap.objs.size + 1, s1.heap.objs.size], _, _, H1, rfl, I2, turn_enum a (s1.heap.objs.size + 1) s1.heap.objs.size, ⟨⟨.none, he⟩, hit, Nat.succ_ne_self _⟩, fun b hb => ?_, q⟩
      have e' : b = s1.heap.objs.size + 1 ∨ b = s1.heap.objs.size := by simpa using hb
      have hle : s1.heap.objs.size ≤ b := by
        rcases e' with z | z
        · rw [z]; exact Nat.le_add_right _ _
        · rw [z]; exact Nat.le_refl _
      exact I1.fpOk hle (I1.hok.fresh hle)
    · obtain ⟨its, rv, p', hz⟩ := I1.tuple hq
      have p2 : s1.heap.IsTuple a its.toArray := p'
      have hal : a < s1.heap.objs.size := by obtain ⟨_, z, _⟩ := p2; exact Heap.lt_size z
      refine enum_begins1 (begins_tuple a its.toArray) p2 fun h' he hit hsz hk => wpAny_pyIter_enum he ?_
      have I2 : Inv X pins σ H1 { s1 with heap := h' } := I1.kept (t' := s1.toks) hk
      refine ⟨s1.heap.objs.size + 1, [s1.heap.objs.size + 1, s1.heap.objs.size], _, _, H1, rfl, I2, turn_enumT a (s1.heap.objs.size + 1) s1.heap.objs.size, ⟨⟨.none, he⟩, ⟨_, hit, rfl, rfl⟩, Nat.succ_ne_self _, Nat.ne_of_lt hal, Nat.ne_of_lt (Nat.lt_succ_of_lt hal)⟩, fun b hb => ?_, q⟩
      have e' : b = s1.heap.objs.size + 1 ∨ b = s1.heap.objs.size := by simpa using hb
      have hle : s1.heap.objs.size ≤ b := by
        rcases e' with z | z
        · rw [z]; exact Nat.le_add_right _ _
        · rw [z]; exact Nat.le_refl _
      exact I1.fpOk hle (I1.hok.fresh hle)
end L2
end
section
set_option Elab.async false
set_option Elab.async false
set_option linter.all false
set_option maxRecDepth 100000
set_option maxHeartbeats 4000000
namespace L2
open PySem PySem.Spec PyProof.Rows
/-- a value's type, wider than TyX: a frozen dict with tuple keys as well -/
inductive TyW (K : PySem.W.Frag) (H : Hp) : V → Value → Prop where
  | x {x : V} {t : Value} (h : TyX K H x t) : TyW K H x t
  | fT {a : Addr} {o : Obj} {kvs : List (List Key × V)} (e : H a = some (.frz o (.dT kvs))) : TyW K H (.ref a) (.type "dict")
section
variable {X : Cx}
theorem kit_ofW {pins : List (Addr × Obj)} {σ : St} {H : Hp} {s : Shared} {x : V} {u t : Value} (I : Inv X pins σ H s) (rx : RelV x u) (ty : TyW X.K H x t) : ∃ P : Heap → Prop, PySem.W.KitX X.K u t P ∧ P s.heap ∧ u ≠ .builtin "__main__.__loader__#opaque" := by
  cases ty with
  | x h => exact kit_of I rx h
  | @fT a ob kvs ea =>
    cases (show u = Value.ref a from rx)
    obtain ⟨hd, z, hs, xs, pr, o, es, ep, ho, hx, r⟩ := (show ObjOk X.prog X.w H s.heap a (.frz ob (.dT kvs)) from I.hok a _ ea)
    exact ⟨_, PySem.W.kitx_dict, ⟨o, ho, hx.1⟩, fun z => nomatch z⟩
end
section
variable {K : PySem.W.Frag} {D : Ends} {σ : St} {H : Hp} {Q : VK} {QT : Bool → Hp → Prop} {QA : List V → Hp → Prop} {E : XK}
theorem ty_int {i : Int} : TyX K H (.int i) (.type "int") := .base (.int i)
theorem ty_str {z : Str} : TyX K H (.str z) (.type "str") := .base (.str z)
theorem ty_bl {b : Bool} : TyX K H (.bl b) (.type "bool") := .base (.bl b)
theorem ty_non : TyX K H .non (.type "NoneType") := .base .non
theorem ty_lst {a : Addr} {xs : List V} (h : SqL K H a xs) : TyX K H (.ref a) (.type "list") := by
  rcases h with (h | ⟨o, h⟩) | ⟨o, its, n, h, c, _⟩
  · exact .base (.lst h)
  · exact .base (.frz h)
  · exact .kList h c
theorem ty_tup {a : Addr} {xs : List V} (h : SqT K H a xs) : TyX K H (.ref a) (.type "tuple") := by
  rcases h with (h | ⟨o, h⟩) | ⟨o, its, n, h, c, _⟩
  · exact .base (.tup h)
  · exact .fTuple h
  · exact .kTuple h c
theorem Same.new {H : Hp} {p : Addr} {o : HO} (h : H p = none) : Same H (upd H p o) := fun b x e => by
  rw [upd_ne (ne_of_none e h)]
  exact e
theorem sz {n : Nat} (h : n ≤ 16000000) : n ≤ sizeLine := Nat.le_trans h (by decide)
end
def rLenV (K : PySem.W.Frag) : List V → Hp → VK → Prop := fun xs H Q => ∃ x n, xs = [x] ∧ LenV K x H n ∧ Q (.int n) H
def rAbs : List V → Hp → VK → Prop := fun xs H Q => ∃ i, xs = [.int i] ∧ Q (.int (if i < 0 then -i else i)) H
def rInt1 : List V → Hp → VK → Prop := fun xs H Q => (∃ i, xs = [.int i] ∧ Q (.int i) H) ∨ ∃ k, xs = [.bl k] ∧ Q (.int (if k then 1 else 0)) H
def rListOf (K : PySem.W.Frag) : List V → Hp → VK → Prop := fun xs H Q => ∃ p ys, xs = [.ref p] ∧ (SqL K H p ys ∨ SqT K H p ys) ∧ ∀ l, H l = none → Q (.ref l) (upd H l (.lst ys))
def rTupOf (K : PySem.W.Frag) : List V → Hp → VK → Prop := fun xs H Q => ∃ p ys, xs = [.ref p] ∧ ((SqL K H p ys ∧ ∀ l, H l = none → Q (.ref l) (upd H l (.tup ys))) ∨ (SqT K H p ys ∧ Q (.ref p) H))
def rAddS : R2 := fun x y H Q => ∃ i j, x = .str i ∧ y = .str j ∧ i.length + j.length ≤ sizeLine ∧ Q (.str (i ++ j)) H
def rNotN : R2 := fun x y H Q => y = .non ∧ Q (.bl (!decide (x = .non))) H
def rInC : R2 := fun x y H Q => ∃ (c : Nat) (z : Str), x = .str ⟨#[c]⟩ ∧ y = .str z ∧ Q (.bl (decide (c ∈ z.cps.toList))) H
def rNotInC : R2 := fun x y H Q => ∃ (c : Nat) (z : Str), x = .str ⟨#[c]⟩ ∧ y = .str z ∧ Q (.bl (!decide (c ∈ z.cps.toList))) H
section
variable {X : Cx}
theorem c_abs : CallR X (.builtin "abs") rAbs := call_abs
theorem c_int1 : CallR X (.type "int") rInt1 := call_int1
theorem o_notN : OpR X (compareOp .IsNot) rNotN := op_notN
end
section
variable {X : Cx}
theorem k_tuple_of (K : PySem.W.Frag) (h : X.K = K := by rfl) : CallR X (.type "tuple") (rTupOf K) := by subst h; exact call_tuple_of
theorem k_penum (K : PySem.W.Frag) {e : Expr} {ta : TA} {p pos tpos : Pos} {elts : List Expr} {kk : Nat} (hg : Gl X "enumerate") (hm : X.mg "enumerate" = none) (ha : PA X [e] ta) (h : X.K = K := by rfl) (hs : starEach [e] X.env = [(false, eval e X.env)] := by rfl) :
    PI X (.Tuple elts kk tpos) (.Call (.Name "enumerate" p) [e] [] pos) (iEnumS K ta) := by subst h; exact pi_enumS hg hm ha hs
theorem k_ptup (K : PySem.W.Frag) (n : Nat) {es : List Expr} {k : Nat} {t : TGs} {pos : Pos} (hc : X.calm = true) (hp : PGs X es t) (h : X.K = K := by rfl)
    (hn : (assignEach es X.env).length = n := by rfl) (hst : (assignEach es X.env).findIdx? (·.1) = none := by rfl) : PG X (.Tuple es k pos) (gTup K n t) := by subst h; exact pg_tup hc hp hn hst
theorem k_bm (K : PySem.W.Frag) {T id : String} {name : Str} {r : V → List V → Hp → VK → Prop} {o e : Expr} {es : List Expr} {to : TE} {t : TA} {apos cpos : Pos} (pa : PlainAttrs T) (slot : Slot T name id) (hty : typeOf (.builtin id) = pure (.type "method_descriptor")) (hm : MtR X id r) (ho : PE X o to) (ha : PA X (e :: es) t) (h : X.K = K := by rfl)
    (hbase : attributeBase o name X.env (eval o X.env) = eval o X.env := by rfl)
    (hfew : ((backTo cpos (starEach (e :: es) X.env)).all (fun x => !x.1) && (backToKw cpos (keywordEach [] X.env)).all (fun x => x.1.isSome)
      && decide ((e :: es).length + ([] : List Keyword).length + (if ([] : List Keyword).isEmpty then 0 else 1) < 30)) = true := by rfl)
    (hline : (apos.endLine == cpos.line) = true := by rfl) (hs : starEach (e :: es) X.env = (false, eval e X.env) :: starEach es X.env := by rfl) (hplain : (backTo cpos (starEach es X.env)).any (·.1) = false := by rfl) :
    PE X (.Call (.Attribute o name apos) (e :: es) [] cpos) (tBM K T r to t) := by subst h; exact pe_bm pa slot hty hm ho ha hbase hfew hline hs hplain
end
def sp1 (b : V → Hp → VK → XK → Prop) : Sp := fun vs H Q E => ∃ x, vs = [x] ∧ b x H Q E
section
variable {P : Program} {w : World} {K : PySem.W.Frag} {mg : Str → Option Value} {base : Heap} {nm : Str} {st : Stmt} {f : Addr} {fd : FuncData} {N ps : List Str} {k : Nat}
theorem Cal.mono {j : Nat} {sp : Sp} (c : C8.Cal P w K mg base j nm sp []) (h : j ≤ k) : C8.Cal P w K mg base k nm sp [] := by
  obtain ⟨f, fd, ps, ds, F, m, kp, b, d⟩ := c.ex
  exact ⟨f, fd, ps, ds, F.mono h, m, kp, b, d⟩
theorem Cal.imp {sp sp' : Sp} (c : C8.Cal P w K mg base k nm sp []) (h : ∀ vs H Q E, sp' vs H Q E → sp vs H Q E) : C8.Cal P w K mg base k nm sp' [] := by
  obtain ⟨f, fd, ps, ds, F, m, kp, b, d⟩ := c.ex
  exact ⟨f, fd, ps, ds, F.imp h, m, kp, b, d⟩
theorem fun_of {qual : Str} (F : FunD K nm qual (defArgs st) (defBody st) (defScope st) [] [] f fd) : L2.Fun K nm qual st f fd := by
  obtain ⟨oc, od, dV, kV, doc, pm, an, cdv, ct, osl, rfl, lk, hcd, hD, hK⟩ := F.ex
  rcases hD with ⟨_, rfl⟩ | ⟨e, _⟩
  · exact ⟨⟨oc, od, kV, doc, pm, an, cdv, ct, osl, rfl, lk, hcd⟩, F.kp⟩
  · exact absurd rfl e
end
end L2
end
section
set_option Elab.async false
set_option Elab.async false
set_option linter.all false
set_option maxRecDepth 100000
set_option maxHeartbeats 4000000
namespace L2
open PySem PySem.Spec PyProof.Rows
end L2
end
section
set_option Elab.async false
set_option Elab.async false
set_option linter.all false
set_option maxRecDepth 100000
set_option maxHeartbeats 4000000
namespace L2
open PySem PySem.Spec PyProof.Rows
def tkey (e : Int × Value) : Str := match e.2 with | .str k _ => k | _ => Str.empty
def TextE (w : World) (e : Int × Value) : Prop := ∃ k tk, e.2 = Value.str k tk ∧ e.1 = hashStr w k
/-- the set of texts at a, ks its members in some order; it can be walked -/
def SetX (w : World) (h : Heap) (a : Addr) (ks : List Str) : Prop :=
  ∃ o es ep t, h.get? a = some o ∧ o.ExactSet ∧ o.data = .set es ep t ∧ (∀ e ∈ es.toList, TextE w e) ∧ (es.toList.map tkey).Perm ks ∧ ks.Nodup ∧
    es.size < scanBound ∧ t.fits es.size = true ∧ Ris t.place.toList ∧ (w.params.followText "set-order" = true ∨ t.led = true)
/-- one more text -/
def more (ks : List Str) (k : Str) : List Str := if k ∈ ks then ks else ks ++ [k]
section
variable {P : Program} {w : World} {A : Around} {E : Value → Shared → Prop} {s : Shared} {a : Addr} {ks : List Str}
theorem text_elems {l : List (Int × Value)} (g : ∀ e ∈ l, TextE w e) : ElemsOf (PySem.strKind P w) l := fun e he => by
  obtain ⟨k, tk, h1, h2⟩ := g e he
  exact ⟨⟨k, by rw [h1]; exact strKind_is P w k tk, h2⟩, by rw [h1] <;> rfl⟩
theorem text_is {e : Int × Value} (g : TextE w e) (k : Str) : (PySem.strKind P w).is k e.2 = true ↔ tkey e = k := by
  obtain ⟨k0, tk, h1, _⟩ := g
  unfold tkey
  rw [h1]
  constructor
  · intro h
    have h' : Value.isStrOf k (Value.str k0 tk) = true := h
    obtain ⟨t, e⟩ := Value.isStrOf_shape (x := k) h'
    injection e
  · rintro rfl
    exact strKind_is P w _ tk
theorem text_mem {l : List (Int × Value)} (g : ∀ e ∈ l, TextE w e) (k : Str) : k ∈ l.map tkey ↔ ∃ e ∈ l, (PySem.strKind P w).is k e.2 = true := by
  rw [List.mem_map]
  exact ⟨fun ⟨e, he, q⟩ => ⟨e, he, (text_is (g e he) k).2 q⟩, fun ⟨e, he, q⟩ => ⟨e, he, (text_is (g e he) k).1 q⟩⟩
theorem SetX.at {h h' : Heap} (R : SetX w h a ks) (k : ∀ o, h.get? a = some o → h'.get? a = some o) : SetX w h' a ks := by
  obtain ⟨o, es, ep, t, ho, r⟩ := R
  exact ⟨o, es, ep, t, k o ho, r⟩
end
end L2
end
section
set_option Elab.async false
set_option Elab.async false
set_option linter.all false
set_option maxRecDepth 100000
set_option maxHeartbeats 4000000
namespace L2
open PySem PySem.Spec PyProof.Rows
end L2
end
section
set_option Elab.async false
set_option Elab.async false
set_option linter.all false
set_option maxRecDepth 100000
set_option maxHeartbeats 4000000
namespace L2
open PySem PySem.Spec PyProof.Rows
end L2
end
section
set_option Elab.async false
set_option Elab.async false
set_option linter.all false
set_option maxRecDepth 100000
set_option maxHeartbeats 4000000
namespace L2
open PySem PySem.Spec PyProof.Rows
end L2
end
section
set_option Elab.async false
set_option Elab.async false
set_option linter.all false
set_option maxRecDepth 100000
set_option maxHeartbeats 4000000
namespace He
open PySem PySem.Spec PyProof.Rows L2
/-- a property of a class: its getter's def -/
structure PrD where
  cls : Str
  prop : Str
  name : Str
  qual : Str
  params : Arguments
  body : List Stmt
  scope : Scope
def pAt (K : PySem.W.Frag) (C f : Str) : Addr := ma K (ga K C) f
def gAt (K : PySem.W.Frag) (C f : Str) : Addr := match PySem.W.recIn K (pAt K C f) "property" with
  | some (.ref g :: _) => g
  | _ => 0
def fnA (K : PySem.W.Frag) (a : Addr) : FnW := match K.lookup a with
  | some ⟨_, _, .func fd, _⟩ => some (fd.name, fd.qualname, fd.params, fd.body, fd.scope, fd.globals, fd.closure, fd.builtins)
  | _ => none
def PrD.val (d : PrD) : FnW := some (d.name, d.qual, d.params, .stmts d.body, d.scope, mainGlobals, [], builtinsNs)
def propB (K : PySem.W.Frag) (C f : Str) : Bool := eqO (PySem.W.findIn K (.ref (ga K C)) f) (some (some (.ref (pAt K C f)))) && (eqO (PySem.W.specialIn K (.ref (pAt K C f)) "__get__") (some (some (.builtin "property.__get__"))) && (decide (PySem.W.takesIn K (.ref (pAt K C f)) = some true) &&
  (match PySem.W.recIn K (pAt K C f) "property" with
    | some (.ref _ :: _) => true
    | _ => false)))
def PrD.ok (K : PySem.W.Frag) (d : PrD) : Bool := propB K d.cls d.prop && (PySem.W.keepIn K (.ref (gAt K d.cls d.prop)) && (match K.lookup (gAt K d.cls d.prop) with
  | some ⟨_, _, .func fd, _⟩ => PySem.W.codeIn K fd.code d.qual && (dflB K fd.defaults [] && kwdB K fd.kwdefaults [])
  | _ => false))
theorem propB_ok {K : PySem.W.Frag} {C f : Str} (h : propB K C f = true) : PropOf K (ga K C) f (pAt K C f) (gAt K C f) := by
  obtain ⟨h1, h⟩ := ba h
  obtain ⟨h2, h⟩ := ba h
  obtain ⟨h3, h4⟩ := ba h
  refine ⟨eqO_ok h1, eqO_ok h2, of_decide_eq_true h3, ?_⟩
  unfold gAt
  cases e : PySem.W.recIn K (pAt K C f) "property" with
  | none => rw [e] at h4; cases h4
  | some l =>
    rw [e] at h4
    cases l with
    | nil => cases h4
    | cons v r =>
      cases v with
      | ref g => exact ⟨r, rfl⟩
      | _ => cases h4
theorem PrD.funD {K : PySem.W.Frag} {d : PrD} (e : fnA K (gAt K d.cls d.prop) = d.val) (c : d.ok K = true) : PropOf K (ga K d.cls) d.prop (pAt K d.cls d.prop) (gAt K d.cls d.prop) ∧ ∃ fd, FunD K d.name d.qual d.params d.body d.scope [] [] (gAt K d.cls d.prop) fd := by
  obtain ⟨c1, c2⟩ := ba c
  refine ⟨propB_ok c1, ?_⟩
  obtain ⟨kp, c2⟩ := ba c2
  unfold fnA at e
  cases q : K.lookup (gAt K d.cls d.prop) with
  | none =>
    rw [q] at c2
    cases c2
  | some o =>
    obtain ⟨oc, od, dt, osl⟩ := o
    rw [q] at c2 e
    cases dt with
    | func fd =>
      obtain ⟨n1, n2, n3, n4, n5, n6, n7, n8, n9, n10, n11, n12, n13, n14, n15⟩ := fd
      have e2 : (some (n1, n2, n3, n4, n5, n6, n7, n15) : FnW) = some (d.name, d.qual, d.params, .stmts d.body, d.scope, mainGlobals, [], builtinsNs) := e
      simp only [Option.some.injEq, Prod.mk.injEq] at e2
      obtain ⟨h1, h2, h3, h4, h5, h6, h7, h8⟩ := e2
      subst h1 h2 h3 h4 h5 h6 h7 h8
      have c3 : (PySem.W.codeIn K n13 d.qual && (dflB K n8 [] && kwdB K n9 [])) = true := c2
      obtain ⟨k1, k2⟩ := ba c3
      obtain ⟨k3, k4⟩ := ba k2
      exact ⟨_, ⟨oc, od, n8, n9, n10, n11, n12, n13, n14, osl, rfl, q, k1, dflB_ok k3, kwdB_ok k4⟩, kp⟩
    | _ => cases c2
abbrev AlP : Type := AlD × Bool × List FnW
def obsP (fa : List Fa) (fn : List DefD) (pr : List PrD) (ex : PySem.W.Frag → Bool) (K : PySem.W.Frag) : AlP := (obsD fa fn K, ex K && pr.all fun d => d.ok K, pr.map fun d => fnA K (gAt K d.cls d.prop))
def valP (fn : List DefD) (pr : List PrD) : AlP := (valD fn, true, pr.map PrD.val)
def SaysP (fa : List Fa) (fn : List DefD) (pr : List PrD) (ex : PySem.W.Frag → Bool) (K : PySem.W.Frag) : Prop := obsP fa fn pr ex K = valP fn pr
def asN (n : Nat) : List Addr := mainGlobals :: (List.range (n * 200)).reverse
def obsPG (n : Nat) (fa : List Fa) (fn : List DefD) (pr : List PrD) (ex : PySem.W.Frag → Bool) (g : Addr → Option Obj) : AlP := obsP fa fn pr ex (frG g (asN n))
def hookP (n : Nat) (fa : List Fa) (fn : List DefD) (pr : List PrD) (ex : PySem.W.Frag → Bool) : PySem.W.Hook where
  α := AlP
  obs := fun s => obsPG n fa fn pr ex s.heap.get?
  val := fun _ => valP fn pr
  says := fun _ h => ∃ K : PySem.W.Frag, K.In h ∧ SaysP fa fn pr ex K
  of := fun _ _ e => ⟨_, frG_in, e⟩
  keeps := fun _ _ _ ⟨K, hK, c⟩ k => ⟨K, PySem.W.Frag.In.keeps hK k, c⟩
theorem obsPG_eq {n : Nat} {fa : List Fa} {fn : List DefD} {pr : List PrD} {ex : PySem.W.Frag → Bool} {g : Addr → Option Obj} {s : Shared} (h : ∀ a, g a = s.heap.get? a) : obsPG n fa fn pr ex g = (hookP n fa fn pr ex).obs s := by
  have e : g = s.heap.get? := funext h
  rw [e] <;> rfl
section
variable {fa : List Fa} {fn : List DefD} {pr : List PrD} {ex : PySem.W.Frag → Bool} {K : PySem.W.Frag}
theorem SaysP.d (c : SaysP fa fn pr ex K) : SaysD fa fn K := congrArg (fun z : AlP => z.1) c
theorem SaysP.exB (c : SaysP fa fn pr ex K) : ex K = true := (ba (show (ex K && pr.all fun d => d.ok K) = true from congrArg (fun z : AlP => z.2.1) c)).1
theorem SaysP.prop (c : SaysP fa fn pr ex K) (i : Nat) {d : PrD} (h : pr[i]? = some d := by rfl) : PropOf K (ga K d.cls) d.prop (pAt K d.cls d.prop) (gAt K d.cls d.prop) ∧ ∃ fd, FunD K d.name d.qual d.params d.body d.scope [] [] (gAt K d.cls d.prop) fd := by
  have c2 := (ba (show (ex K && pr.all fun d => d.ok K) = true from congrArg (fun z : AlP => z.2.1) c)).2
  have e : pr.map (fun d => fnA K (gAt K d.cls d.prop)) = pr.map PrD.val := congrArg (fun z : AlP => z.2.2) c
  have e2 : (pr.map fun d => fnA K (gAt K d.cls d.prop))[i]? = (pr.map PrD.val)[i]? := by rw [e]
  rw [List.getElem?_map, List.getElem?_map, h] at e2
  exact PrD.funD (Option.some.inj e2) (List.all_eq_true.mp c2 d (List.mem_of_getElem? h))
end
end He
namespace L2
open PySem PySem.Spec PyProof.Rows
/-- a property of the class at C -/
structure Prp (P : Program) (w : World) (K : PySem.W.Frag) (mg : Str → Option Value) (base : Heap) (k : Nat) (C : Addr) (m : Str) (sp : Sp) : Prop where
  ex : ∃ (p f : Addr) (fd : FuncData) (ps : List Str), Cls K C ∧ PropOf K C m p f ∧ FnOk P w K mg base CX0 k f fd ps sp ∧ Binds K fd ps []
theorem Prp.mono {P : Program} {w : World} {K : PySem.W.Frag} {mg : Str → Option Value} {base : Heap} {k j : Nat} {C : Addr} {m : Str} {sp : Sp} (c : Prp P w K mg base j C m sp) (h : j ≤ k) : Prp P w K mg base k C m sp := by
  obtain ⟨p, f, fd, ps, a, b, F, d⟩ := c.ex
  exact ⟨p, f, fd, ps, a, b, F.mono h, d⟩
theorem Met.mono {P : Program} {w : World} {K : PySem.W.Frag} {mg : Str → Option Value} {base : Heap} {k j : Nat} {C : Addr} {m : Str} {sp : Sp} (c : C8.Met P w K mg base j C m sp []) (h : j ≤ k) : C8.Met P w K mg base k C m sp [] := by
  obtain ⟨f, fd, ps, ds, a, b, F, d, e⟩ := c.ex
  exact ⟨f, fd, ps, ds, a, b, F.mono h, d, e⟩
theorem Mak.mono {P : Program} {w : World} {K : PySem.W.Frag} {mg : Str → Option Value} {base : Heap} {k j : Nat} {C : Addr} {x : Str} {sp : Sp} (c : C8.Mak P w K mg base j x C sp []) (h : j ≤ k) : C8.Mak P w K mg base k x C sp [] := by
  obtain ⟨f, fd, ps, ds, a, F, b, d, e⟩ := c.ex
  exact ⟨f, fd, ps, ds, a, F.mono h, b, d, e⟩
end L2
end
section
set_option Elab.async false
set_option Elab.async false
set_option linter.all false
set_option autoImplicit false
set_option maxRecDepth 100000
set_option maxHeartbeats 4000000
namespace TL
open PySem PySem.Spec L2
def tyNames : List String := ["NoneType", "bool", "int", "str", "tuple", "list", "dict"]
end TL
end
section
set_option Elab.async false
set_option linter.all false
set_option autoImplicit false
namespace TL
open PySem
/-- is a of the class b: its own, or the class of all -/
def exSub (a b : Str) : Bool := decide (a = b) || decide (b = PySem.Str.ofString "SlipError")
end TL
end
section
set_option Elab.async false
set_option Elab.async false
set_option linter.all false
set_option autoImplicit false
set_option maxRecDepth 100000
set_option maxHeartbeats 4000000
namespace TL
open PySem PySem.Spec PyProof.Rows L2 NdefX
def isAsg (f : Str) : Stmt → Bool
  | .Assign [.Attribute (.Name s _) g _] (.Name p _) _ => s == ("self" : Str) && g == f && p == f
  | _ => false
/-- a name of a parameter -/
def okNm (f : Str) : Bool := !(f == ("__debug__" : Str)) && !(f == ("__classdict__" : Str))
/-- the class at C, as OexC has it -/
def oexB (K : PySem.W.Frag) (C : Addr) : Bool :=
  (match K.lookup C with
  | some ⟨ty, _, .cls cd, sl⟩ => ty == .type "type" && (match cd.mro, sl.toList with
    | m :: bm, [_, _, _, _, some n, _] => m == .ref C && (n == .builtin "ValueError.__new__" && (!cd.hasDel && (cd.hasDict && PySem.HandSPX.refsVE bm)))
    | _, _ => false)
  | _ => false) && (decide (PySem.W.findIn K (.ref C) "__setattr__" = some (some (.builtin "object.__setattr__"))) && (decide (PySem.W.subIn K (.ref C) (.type "BaseException") = some true) && (decide (PySem.W.typeIn K (.ref C) = some (.type "type")) && PySem.W.keepIn K (.ref C))))
def cellB (K : PySem.W.Frag) (cc D : Addr) : Bool := match K.lookup cc with
  | some ⟨_, _, .cell (some v), _⟩ => v == .ref D
  | _ => false
def codeB (K : PySem.W.Frag) (file : Str) (c : Addr) : Bool := match K.lookup c with
  | some ⟨_, _, .fields vs, _⟩ => (match (vs[2]? : Option Value) with
    | some (Value.str f _) => f == file
    | _ => false)
  | _ => false
def restB : List Str → List Stmt → Bool
  | [], [] => true
  | f :: fs, s :: r => isAsg f s && restB fs r
  | _, _ => false
def bodyB (fs : List Str) : List Stmt → Bool
  | .Expr (.Call (.Attribute (.Call (.Name s _) [] [] _) i p2) [.Constant (.str _) _ _] [] p4) _ :: rest => s == ("super" : Str) && (i == ("__init__" : Str) && (p2.endLine == p4.line && restB fs rest))
  | _ => false
def paramsB (ps : List Str) (a : Arguments) : Bool := a.posonlyargs.isEmpty && (a.vararg.isNone && (a.kwonlyargs.isEmpty && (a.kw_defaults.isEmpty && (a.kwarg.isNone && (a.defaults.isEmpty && a.args.map (·.arg) == ps)))))
/-- the function at f is the __init__ of the class at D, with the fields fs -/
def initB (file : Str) (K : PySem.W.Frag) (f D : Addr) (fs : List Str) : Bool := match K.lookup f with
  | some ⟨_, _, .func fd, _⟩ => (match fd.body with
    | .stmts b => bodyB fs b
    | _ => false) && (paramsB (("self" : Str) :: fs) fd.params && (nscB (("self" : Str) :: fs ++ [("__class__" : Str)]) (("self" : Str) :: fs) [("__class__" : Str)] fd.scope && (fd.globals == mainGlobals && (fd.builtins == builtinsNs && (fd.defaults == .none && (fd.kwdefaults == .none && (fd.annotations.isNone && ((match fd.closure with
    | [(n, cc)] => n == ("__class__" : Str) && cellB K cc D
    | _ => false) && ((match fd.code with
    | .ref c => codeB K file c
    | _ => false) && (PySem.W.codeIn K fd.code fd.qualname && decide (fd.scope.names.lookup ("super" : Str) = some .globalImplicit)))))))))))
  | _ => false
/-- own class D with an __init__ of its own -/
def exkB (file : Str) (K : PySem.W.Frag) (D : Addr) (fs : List Str) : Bool := oexB K D && (PySem.W.mroIn K D (.ref D) == some true && (PySem.W.nsIn K cStatics "thirdparty.any" == some none && (PySem.W.ks_superIn K D D "__init__" == some (some (.builtin "ValueError.__init__")) && (PySem.W.subIn K (.ref D) (.type "ValueError") == some true && (fs.all (fun f => okNm f && decide (PySem.W.findIn K (.ref D) f = some none)) && (match PySem.W.findIn K (.ref D) "__init__" with
  | some (some (.ref f)) => decide (PySem.W.typeIn K (.ref f) = some (.type "function")) && initB file K f D fs
  | _ => false))))))
/-- the program's own text, as super() asks for it -/
def supP (file : Str) (P : Program) : Bool := (P.main.file == file) && !(P.main.scope.names.lookup ("super" : Str)).isSome
def ex0B (K : PySem.W.Frag) (D : Addr) : Bool := PySem.W.excIn K D [.type "ValueError", .type "Exception", .type "BaseException", .type "object"] "ValueError.__new__" && (PySem.W.keepIn K (.ref D) && (PySem.W.subIn K (.ref D) (.type "BaseException") == some true && PySem.W.typeIn K (.ref D) == some (.type "type")))
abbrev VE : Str := PySem.Str.ofString "ValueError"
/-- the class that isinstance is asked with -/
def isV (ga : Str → Addr) (b : Str) : Value := if b = VE then .type "ValueError" else .ref (ga b)
def xcB (K : PySem.W.Frag) (D : Addr) : Bool := decide (PySem.W.findIn K (.ref D) "__getattribute__" = some (some (.builtin "BaseException.__getattribute__"))) && (decide (PySem.W.findIn K (.ref D) "__getattr__" = some none) && (decide (PySem.W.subIn K (.ref D) (.type "BaseException") = some true) && (PySem.W.hasDictIn K D && (decide (PySem.W.findIn K (.ref D) "__class__" = some (some (.builtin "object.__class__"))) && (decide (PySem.W.specialIn K (.builtin "object.__class__") "__get__" = some (some (.builtin "getset_descriptor.__get__"))) && (decide (PySem.W.takesIn K (.builtin "object.__class__") = some true) && decide (PySem.W.mroIn K D (.type "object") = some true)))))))
def xsB (file : Str) (K : PySem.W.Frag) (ga : Str → Addr) (cls : List (Str × List Str)) (hs : List Str) (iss : List (Str × Str)) : Bool :=
  cls.all (fun q => (if q.2 = [] then ex0B K (ga q.1) else exkB file K (ga q.1) q.2) && (xfB K (ga q.1) && xcB K (ga q.1))) && (hs.all (fun c => (cls.map (·.1)).all fun a => PySem.W.exmOne K (.ref (ga a)) (.ref (ga c)) == some (exSub a c)) &&
    iss.all (fun q => PySem.W.kitOne K (.ref (ga q.1)) (isV ga q.2) == some (exSub q.1 q.2 || decide (q.2 = VE))))
end TL
end
section
set_option Elab.async false
set_option Elab.async false
set_option linter.all false
set_option autoImplicit false
set_option maxRecDepth 100000
set_option maxHeartbeats 4000000
namespace My
open PySem PySem.Spec L2 TL
def topS (i : Nat) : Stmt := PySem.Challenge.pw_slipstold_k13_bad_scripts.main.body.getD i (.Pass ⟨0, 0, 0, 0⟩)
abbrev s__law_purse : Stmt := topS 25
abbrev N__law_purse : List Str := ["_law_script_here", "_law_cells", "_law_great", "_law_k", "_law_cell"]
abbrev P__law_purse : List Str := ["_law_script_here"]
theorem sc__law_purse : FnScope N__law_purse P__law_purse (defScope s__law_purse) := ⟨rfl, rfl, rfl, by decide +kernel, rfl, by decide +kernel, by decide +kernel⟩
abbrev s__law_draw : Stmt := topS 26
abbrev N__law_draw : List Str := ["_law_purse_here", "_law_many", "_law_at", "_law_rest", "_law_number"]
abbrev P__law_draw : List Str := ["_law_purse_here", "_law_many"]
theorem sc__law_draw : FnScope N__law_draw P__law_draw (defScope s__law_draw) := ⟨rfl, rfl, rfl, by decide +kernel, rfl, by decide +kernel, by decide +kernel⟩
abbrev s__law_name : Stmt := topS 27
abbrev N__law_name : List Str := ["_law_purse_here", "_law_word", "_law_k"]
abbrev P__law_name : List Str := ["_law_purse_here"]
theorem sc__law_name : FnScope N__law_name P__law_name (defScope s__law_name) := ⟨rfl, rfl, rfl, by decide +kernel, rfl, by decide +kernel, by decide +kernel⟩
abbrev s__law_names : Stmt := topS 28
abbrev N__law_names : List Str := ["_law_purse_here", "_law_many", "_law_plain", "_law_spelled", "_law_names_here", "_law_k", "_law_word", "_law_each"]
abbrev P__law_names : List Str := ["_law_purse_here", "_law_many"]
theorem sc__law_names : FnScope N__law_names P__law_names (defScope s__law_names) := ⟨rfl, rfl, rfl, by decide +kernel, rfl, by decide +kernel, by decide +kernel⟩
abbrev s__law_script : Stmt := topS 29
abbrev N__law_script : List Str := ["_law_purse_here", "_law_names_here", "_law_most", "_law_script_here", "_law_k", "_law_kind", "_law_t", "_law_others", "_law_name_here"]
abbrev P__law_script : List Str := ["_law_purse_here", "_law_names_here", "_law_most"]
theorem sc__law_script : FnScope N__law_script P__law_script (defScope s__law_script) := ⟨rfl, rfl, rfl, by decide +kernel, rfl, by decide +kernel, by decide +kernel⟩
abbrev s__law_strange : Stmt := topS 30
abbrev N__law_strange : List Str := ["_law_purse_here", "_law_token", "_law_deep", "_law_k", "_law_things"]
abbrev P__law_strange : List Str := ["_law_purse_here", "_law_token"]
theorem sc__law_strange : FnScope N__law_strange P__law_strange (defScope s__law_strange) := ⟨rfl, rfl, rfl, by decide +kernel, rfl, by decide +kernel, by decide +kernel⟩
abbrev s__law_bad_edit : Stmt := topS 31
abbrev N__law_bad_edit : List Str := ["_law_purse_here", "_law_name_here", "_law_kind", "_law_word", "_law_bad"]
abbrev P__law_bad_edit : List Str := ["_law_purse_here", "_law_name_here"]
theorem sc__law_bad_edit : FnScope N__law_bad_edit P__law_bad_edit (defScope s__law_bad_edit) := ⟨rfl, rfl, rfl, by decide +kernel, rfl, by decide +kernel, by decide +kernel⟩
abbrev s__law_good : Stmt := topS 32
abbrev N__law_good : List Str := ["_law_edit", "_law_name_here", "_law_letter"]
abbrev P__law_good : List Str := ["_law_edit"]
theorem sc__law_good : FnScope N__law_good P__law_good (defScope s__law_good) := ⟨rfl, rfl, rfl, by decide +kernel, rfl, by decide +kernel, by decide +kernel⟩
abbrev s__law_place : Stmt := topS 33
abbrev N__law_place : List Str := ["_law_edits", "_law_k"]
abbrev P__law_place : List Str := ["_law_edits"]
theorem sc__law_place : FnScope N__law_place P__law_place (defScope s__law_place) := ⟨rfl, rfl, rfl, by decide +kernel, rfl, by decide +kernel, by decide +kernel⟩
abbrev s_is_items : Stmt := topS 9
abbrev N_is_items : List Str := ["value"]
abbrev P_is_items : List Str := ["value"]
theorem sc_is_items : FnScope N_is_items P_is_items (defScope s_is_items) := ⟨rfl, rfl, rfl, by decide +kernel, rfl, by decide +kernel, by decide +kernel⟩
abbrev s_is_name : Stmt := topS 10
abbrev N_is_name : List Str := ["value", "letter"]
abbrev P_is_name : List Str := ["value"]
theorem sc_is_name : FnScope N_is_name P_is_name (defScope s_is_name) := ⟨rfl, rfl, rfl, by decide +kernel, rfl, by decide +kernel, by decide +kernel⟩
abbrev s_is_edit : Stmt := topS 15
abbrev N_is_edit : List Str := ["value"]
abbrev P_is_edit : List Str := ["value"]
theorem sc_is_edit : FnScope N_is_edit P_is_edit (defScope s_is_edit) := ⟨rfl, rfl, rfl, by decide +kernel, rfl, by decide +kernel, by decide +kernel⟩
abbrev s_bad_edit : Stmt := topS 16
abbrev N_bad_edit : List Str := ["script", "k", "edit"]
abbrev P_bad_edit : List Str := ["script"]
theorem sc_bad_edit : FnScope N_bad_edit P_bad_edit (defScope s_bad_edit) := ⟨rfl, rfl, rfl, by decide +kernel, rfl, by decide +kernel, by decide +kernel⟩
abbrev s_need_script : Stmt := topS 17
abbrev N_need_script : List Str := ["script", "place"]
abbrev P_need_script : List Str := ["script"]
theorem sc_need_script : FnScope N_need_script P_need_script (defScope s_need_script) := ⟨rfl, rfl, rfl, by decide +kernel, rfl, by decide +kernel, by decide +kernel⟩
abbrev s_source : Stmt := topS 18
abbrev N_source : List Str := ["script", "edit"]
abbrev P_source : List Str := ["script"]
theorem sc_source : FnScope N_source P_source (defScope s_source) := ⟨rfl, rfl, rfl, by decide +kernel, rfl, by decide +kernel, by decide +kernel⟩
abbrev s_target : Stmt := topS 19
abbrev N_target : List Str := ["script", "edit"]
abbrev P_target : List Str := ["script"]
theorem sc_target : FnScope N_target P_target (defScope s_target) := ⟨rfl, rfl, rfl, by decide +kernel, rfl, by decide +kernel, by decide +kernel⟩
abbrev s_cost : Stmt := topS 20
abbrev N_cost : List Str := ["script", "edit"]
abbrev P_cost : List Str := ["script"]
theorem sc_cost : FnScope N_cost P_cost (defScope s_cost) := ⟨rfl, rfl, rfl, by decide +kernel, rfl, by decide +kernel, by decide +kernel⟩
abbrev s_is_integer : Stmt := topS 8
abbrev N_is_integer : List Str := ["value"]
abbrev P_is_integer : List Str := ["value"]
theorem sc_is_integer : FnScope N_is_integer P_is_integer (defScope s_is_integer) := ⟨rfl, rfl, rfl, by decide +kernel, rfl, by decide +kernel, by decide +kernel⟩
abbrev s_is_within : Stmt := topS 11
abbrev N_is_within : List Str := ["value", "low", "high"]
abbrev P_is_within : List Str := ["value", "low", "high"]
theorem sc_is_within : FnScope N_is_within P_is_within (defScope s_is_within) := ⟨rfl, rfl, rfl, by decide +kernel, rfl, by decide +kernel, by decide +kernel⟩
abbrev s_need_within : Stmt := topS 12
abbrev N_need_within : List Str := ["value", "low", "high"]
abbrev P_need_within : List Str := ["value", "low", "high"]
theorem sc_need_within : FnScope N_need_within P_need_within (defScope s_need_within) := ⟨rfl, rfl, rfl, by decide +kernel, rfl, by decide +kernel, by decide +kernel⟩
abbrev s_turned : Stmt := topS 23
abbrev N_turned : List Str := ["ahead", "turn", "behind", "n", "script"]
abbrev P_turned : List Str := ["ahead", "turn", "behind", "n"]
theorem sc_turned : FnScope N_turned P_turned (defScope s_turned) := ⟨rfl, rfl, rfl, by decide +kernel, rfl, by decide +kernel, by decide +kernel⟩
abbrev s__law_ask : Stmt := topS 34
abbrev N__law_ask : List Str := ["_law_which", "_law_edits", "e", "_law_kinds"]
abbrev P__law_ask : List Str := ["_law_which", "_law_edits"]
theorem sc__law_ask : FnScope N__law_ask P__law_ask (defScope s__law_ask) := ⟨rfl, rfl, rfl, by decide +kernel, rfl, by decide +kernel, by decide +kernel⟩
abbrev s_law : Stmt := topS 35
abbrev N_law : List Str := ["_law_script_here", "_law_purse_here", "_law_kind", "_law_spoils", "_law_names_here", "_law_edits", "_law_k", "_law_at", "_law_place_here", "_law_due", "_law_which"]
abbrev P_law : List Str := ["_law_script_here"]
theorem sc_law : FnScope N_law P_law (defScope s_law) := ⟨rfl, rfl, rfl, by decide +kernel, rfl, by decide +kernel, by decide +kernel⟩
abbrev clsX : List (Str × List Str) := [((PySem.Str.ofString "BadScript"), [(PySem.Str.ofString "place")]), ((PySem.Str.ofString "NoNumber"), [])]
abbrev hsX : List Str := [(PySem.Str.ofString "BadScript"), (PySem.Str.ofString "NoNumber")]
abbrev issX : List (Str × Str) := [((PySem.Str.ofString "BadScript"), (PySem.Str.ofString "SlipError")), ((PySem.Str.ofString "BadScript"), (PySem.Str.ofString "ValueError")), ((PySem.Str.ofString "BadScript"), (PySem.Str.ofString "NoRow")), ((PySem.Str.ofString "BadScript"), (PySem.Str.ofString "NoNumber"))]
def d__law_purse : He.DefD := ⟨("_law_purse", none), "_law_purse", "_law_purse", defArgs s__law_purse, defBody s__law_purse, defScope s__law_purse, [], []⟩
def d__law_draw : He.DefD := ⟨("_law_draw", none), "_law_draw", "_law_draw", defArgs s__law_draw, defBody s__law_draw, defScope s__law_draw, [], []⟩
def d__law_name : He.DefD := ⟨("_law_name", none), "_law_name", "_law_name", defArgs s__law_name, defBody s__law_name, defScope s__law_name, [], []⟩
def d__law_names : He.DefD := ⟨("_law_names", none), "_law_names", "_law_names", defArgs s__law_names, defBody s__law_names, defScope s__law_names, [], []⟩
def d__law_script : He.DefD := ⟨("_law_script", none), "_law_script", "_law_script", defArgs s__law_script, defBody s__law_script, defScope s__law_script, [], []⟩
def d__law_strange : He.DefD := ⟨("_law_strange", none), "_law_strange", "_law_strange", defArgs s__law_strange, defBody s__law_strange, defScope s__law_strange, [], []⟩
def d__law_bad_edit : He.DefD := ⟨("_law_bad_edit", none), "_law_bad_edit", "_law_bad_edit", defArgs s__law_bad_edit, defBody s__law_bad_edit, defScope s__law_bad_edit, [], []⟩
def d__law_good : He.DefD := ⟨("_law_good", none), "_law_good", "_law_good", defArgs s__law_good, defBody s__law_good, defScope s__law_good, [], []⟩
def d__law_place : He.DefD := ⟨("_law_place", none), "_law_place", "_law_place", defArgs s__law_place, defBody s__law_place, defScope s__law_place, [], []⟩
def d_is_items : He.DefD := ⟨("is_items", none), "is_items", "is_items", defArgs s_is_items, defBody s_is_items, defScope s_is_items, [], []⟩
def d_is_name : He.DefD := ⟨("is_name", none), "is_name", "is_name", defArgs s_is_name, defBody s_is_name, defScope s_is_name, [], []⟩
def d_is_edit : He.DefD := ⟨("is_edit", none), "is_edit", "is_edit", defArgs s_is_edit, defBody s_is_edit, defScope s_is_edit, [], []⟩
def d_bad_edit : He.DefD := ⟨("bad_edit", none), "bad_edit", "bad_edit", defArgs s_bad_edit, defBody s_bad_edit, defScope s_bad_edit, [], []⟩
def d_need_script : He.DefD := ⟨("need_script", none), "need_script", "need_script", defArgs s_need_script, defBody s_need_script, defScope s_need_script, [], []⟩
def d_source : He.DefD := ⟨("source", none), "source", "source", defArgs s_source, defBody s_source, defScope s_source, [], []⟩
def d_target : He.DefD := ⟨("target", none), "target", "target", defArgs s_target, defBody s_target, defScope s_target, [], []⟩
def d_cost : He.DefD := ⟨("cost", none), "cost", "cost", defArgs s_cost, defBody s_cost, defScope s_cost, [], []⟩
def d_is_integer : He.DefD := ⟨("is_integer", none), "is_integer", "is_integer", defArgs s_is_integer, defBody s_is_integer, defScope s_is_integer, [], []⟩
def d_is_within : He.DefD := ⟨("is_within", none), "is_within", "is_within", defArgs s_is_within, defBody s_is_within, defScope s_is_within, [], []⟩
def d_need_within : He.DefD := ⟨("need_within", none), "need_within", "need_within", defArgs s_need_within, defBody s_need_within, defScope s_need_within, [], []⟩
def d_turned : He.DefD := ⟨("turned", none), "turned", "turned", defArgs s_turned, defBody s_turned, defScope s_turned, [], []⟩
def d__law_ask : He.DefD := ⟨("_law_ask", none), "_law_ask", "_law_ask", defArgs s__law_ask, defBody s__law_ask, defScope s__law_ask, [], []⟩
def d_law : He.DefD := ⟨("law", none), "law", "law", defArgs s_law, defBody s_law, defScope s_law, [], []⟩
def fn : List He.DefD := [d__law_purse, d__law_draw, d__law_name, d__law_names, d__law_script, d__law_strange, d__law_bad_edit, d__law_good, d__law_place, d_is_items, d_is_name, d_is_edit, d_bad_edit, d_need_script, d_source, d_target, d_cost, d_is_integer, d_is_within, d_need_within, d_turned, d__law_ask, d_law]
def pr : List He.PrD := []
def exB0 (K : PySem.W.Frag) : Bool := true
def exB (K : PySem.W.Frag) : Bool := exB0 K && TL.xsB PySem.Challenge.rw_slipstold_k13_bad_scripts.prog.main.file K (He.ga K) clsX hsX issX
def fa : List He.Fa := [.glo "_law_purse", .glo "_law_draw", .glo "_law_name", .glo "_law_names", .glo "_law_script", .glo "_law_strange", .glo "_law_bad_edit", .glo "_law_good", .glo "_law_place", .glo "is_items", .glo "is_name", .glo "is_edit", .glo "bad_edit", .glo "need_script", .glo "source", .glo "target", .glo "cost", .glo "is_integer", .glo "is_within", .glo "need_within", .glo "turned", .glo "_law_ask", .glo "law", .free "ValueError", .free "abs", .free "bool", .free "enumerate", .free "int", .free "isinstance", .free "len", .free "list", .free "range", .free "str", .free "super", .free "tuple", .str "LETTERS" "abcdefghijklmnopqrstuvwxyz", .int "MOST_EDITS" 5000, .int "MOST_TURNED" 5000, .glo "BadScript", .glo "NoNumber", .glo "SlipError", .glo "NoRow"]
abbrev R : PySem.W.OpenRow := PySem.W.OpenLaw.row PySem.Challenge.rw_slipstold_k13_bad_scripts
abbrev hk : PySem.W.Hook := He.hookP 6 fa fn pr exB
def ob (s : PySem.W.SharedT) : He.AlP := He.obsPG 6 fa fn pr exB (HandSHeadRun.getT s)
theorem ob_eq (s : PySem.W.SharedT) : ob s = hk.obs s.abs := He.obsPG_eq (HandSHeadRun.getT_eq s)
def loose : List Str := [PySem.Str.ofString "SlipError", PySem.Str.ofString "BadScript", PySem.Str.ofString "NoRow", PySem.Str.ofString "TooMany", PySem.Str.ofString "NoNumber", PySem.Str.ofString "is_integer", PySem.Str.ofString "is_items", PySem.Str.ofString "is_name", PySem.Str.ofString "is_within", PySem.Str.ofString "need_within", PySem.Str.ofString "is_edit", PySem.Str.ofString "bad_edit", PySem.Str.ofString "need_script", PySem.Str.ofString "source", PySem.Str.ofString "target", PySem.Str.ofString "cost", PySem.Str.ofString "turned", PySem.Str.ofString "_law_purse", PySem.Str.ofString "_law_draw", PySem.Str.ofString "_law_name", PySem.Str.ofString "_law_names", PySem.Str.ofString "_law_script", PySem.Str.ofString "_law_strange", PySem.Str.ofString "_law_bad_edit", PySem.Str.ofString "_law_good", PySem.Str.ofString "_law_place", PySem.Str.ofString "_law_ask", PySem.Str.ofString "LETTERS", PySem.Str.ofString "MOST_EDITS", PySem.Str.ofString "MOST_TURNED"]
theorem run (w : World) : HandSHeadRun.RunEq R (PySem.W.view R.prog [35]) hk ob 6000 loose w := by
  intro os
  kernel_rfl
abbrev spLaw (K : PySem.W.Frag) : Sp := sp1 fun x H Q _ => ∃ (a : Addr) (ns : List Int), x = .ref a ∧ SqL K H a (ns.map V.int) ∧ ∀ H', Q (.bl true) H'
def Facts : Prop := ∀ {P : Program} {w : World} {K : PySem.W.Frag} {h : Heap} {mg : Str → Option Value} {f : Addr} (X : K.In h) (G : h.Ns mainGlobals mg) (hfa : mg ("law" : Str) = some (.ref f)) (c : He.SaysP fa fn pr exB K) (hP : TL.supP PySem.Challenge.rw_slipstold_k13_bad_scripts.prog.main.file P = true),
    ∃ fd : FuncData, (∀ (s : Shared) (v : Value), BindsTo s fd ⟨[v], []⟩ [("_law_script_here", v)]) ∧ ∀ base : Heap, K.In base → base.Ns mainGlobals mg → FnOk P w K mg base CX0 7 f fd ["_law_script_here"] (spLaw K)
end My
section
open PySem PySem.W PySem.Calls PyProof.Rows
set_option maxRecDepth 100000 in
set_option maxHeartbeats 0 in
theorem My.fin (HF : My.Facts) : PySem.Challenge.rw_slipstold_k13_bad_scripts.Holds := by
  w_on; o_law
  refine HandSHeadRun.head_any (r := OpenLaw.row PySem.Challenge.rw_slipstold_k13_bad_scripts) (q := view (OpenLaw.row PySem.Challenge.rw_slipstold_k13_bad_scripts).prog [35]) (H := My.hk) (ob := My.ob) (M := 6000) (loose := My.loose) (d := HandSHeadRun.topDef (OpenLaw.row PySem.Challenge.rw_slipstold_k13_bad_scripts).prog 35) (kwd := []) My.ob_eq
    (by kernel_rfl) (fun s => by kernel_rfl) My.run (by kernel_rfl) (by kernel_rfl) (by kernel_rfl) (by rfl) (by first | assumption | decide +kernel) (by decide +kernel) ⟨rfl, rfl, rfl, rfl, rfl, by decide +kernel⟩ ?hw ?hc
  case hw => w_witness2
  case hc =>
    refine L2.walk_ofE (l := PySem.Challenge.rw_slipstold_k13_bad_scripts) (n := 63) (k := 7) (x := "_law_script_here") (CX := L2.CX0) rfl (by decide) (by kernel_rfl) ⟨rfl, by decide, by decide⟩ ?F (fun _ _ _ _ z => z)
    intro w mg fa h Y G hmg0
    obtain ⟨K, KX, c⟩ := Y
    have hmg : mg ("law" : PySem.Str) = some (.ref fa) := by
      have e : (HandSHeadRun.topDef (OpenLaw.row PySem.Challenge.rw_slipstold_k13_bad_scripts).prog 35).name = ("law" : PySem.Str) := by kernel_rfl
      rw [← e]
      exact hmg0
    obtain ⟨fd, hb, hF⟩ := HF (P := (PySem.Challenge.rw_slipstold_k13_bad_scripts).prog) (w := w) KX G hmg c (by kernel_rfl)
    exact ⟨K, fd, My.spLaw K, KX, hb, fun H a ns hl _ hS => ⟨.ref a, rfl, a, ns, rfl, hS, fun _ => rfl⟩, hF⟩
end
end
section
set_option Elab.async false
set_option linter.all false
set_option autoImplicit false
namespace TL
open PySem
inductive T where
  | non | bl (b : Bool) | int (i : Int) | str (x : Str) | tup (xs : List T) | lst (xs : List T) | dct (kvs : List (T × T)) | set (xs : List T) | ins (c : Str) (fs : List (Str × T))
  deriving Inhabited
structure Exn where
  c : Str
  fs : List (Str × T)
abbrev Tau := List (Option T)
inductive RE (α : Type) where
  | ok (a : α) (τ : Tau) | exc (x : Exn) (τ : Tau) | stuck
def RE.next {α β : Type} (r : RE α) (f : α → Tau → RE β) : RE β := match r with
  | .ok a τ => f a τ
  | .exc x τ => .exc x τ
  | .stuck => .stuck
/-- a step: over the slots -/
abbrev M (α : Type) := Tau → RE α
namespace M
def pure {α : Type} (a : α) : M α := fun τ => .ok a τ
def bind {α β : Type} (m : M α) (f : α → M β) : M β := fun τ => (m τ).next f
def stuck {α : Type} : M α := fun _ => .stuck
def of {α : Type} : Option α → M α
  | some a => pure a
  | none => stuck
instance : Monad M where
  pure := M.pure
  bind := M.bind
end M
def get (i : Nat) : M T := fun τ => match τ[i]? with
  | some (some t) => .ok t τ
  | _ => .stuck
def put (i : Nat) (t : T) : M Unit := fun τ => .ok () (τ.set i (some t))
/-- take the tree out of slot i -/
def mv (i : Nat) : M T := fun τ => match τ[i]? with
  | some (some t) => .ok t (τ.set i none)
  | _ => .stuck
/-- how a statement ends -/
inductive Ctl where
  | nx | rt (w : T) | bk | ct
mutual
/-- no list, dict, set in it; an instance counts as fixed -/
def imm : T → Bool
  | .non => true
  | .bl _ => true
  | .int _ => true
  | .str _ => true
  | .tup xs => imms xs
  | .lst _ => false
  | .dct _ => false
  | .set _ => false
  | .ins _ _ => true
def imms : List T → Bool
  | [] => true
  | x :: xs => imm x && imms xs
end
def immC (w : T) : M T := if imm w = true then M.pure w else M.stuck
def immsC (ws : List T) : M (List T) := if imms ws = true then M.pure ws else M.stuck
def isScal : T → Bool
  | .non => true
  | .bl _ => true
  | .int _ => true
  | .str _ => true
  | _ => false
def scalC (w : T) : M T := if isScal w = true then M.pure w else M.stuck
def asB : T → M Bool
  | .bl b => M.pure b
  | _ => M.stuck
def sNx : M Ctl := M.pure .nx
def sSeq (a b : M Ctl) : M Ctl := a >>= fun c => match c with
  | .nx => b
  | c => M.pure c
def sRet (e : M T) : M Ctl := e >>= fun w => M.pure (.rt w)
def sDrop (e : M T) : M Ctl := e >>= fun _ => M.pure .nx
def sSet (i : Nat) (e : M T) : M Ctl := e >>= fun w => put i w >>= fun _ => M.pure .nx
def sIf (c : M Bool) (a b : M Ctl) : M Ctl := c >>= fun x => if x = true then a else b
/-- behind one turn of a loop -/
def turn (k : M Ctl) : Ctl → M Ctl
  | .nx => k
  | .ct => k
  | .bk => M.pure .nx
  | .rt w => M.pure (.rt w)
def sFor (g : T → M Unit) (b : M Ctl) : List T → M Ctl
  | [] => M.pure .nx
  | x :: xs => g x >>= fun _ => b >>= turn (sFor g b xs)
def pad : Nat → Tau → Tau
  | 0, _ => []
  | n + 1, [] => none :: pad n []
  | n + 1, t :: τ => t :: pad n τ
theorem pad_len : ∀ (n : Nat) (τ : Tau), (pad n τ).length = n
  | 0, _ => rfl
  | n + 1, [] => by simp [pad, pad_len n []]
  | n + 1, t :: τ => by simp [pad, pad_len n τ]
theorem pad_take : ∀ {n : Nat} {τ : Tau}, n ≤ τ.length → pad n τ = τ.take n
  | 0, _, _ => by simp [pad]
  | n + 1, [], h => by simp at h
  | n + 1, t :: τ, h => by
    have := pad_take (n := n) (τ := τ) (by simpa using h)
    simp [pad, this]
/-- a def's body over its arguments; behind it what it left of them -/
def runF (s : M Ctl) (np N : Nat) (ts : List T) : RE T := match s (ts.map some ++ List.replicate (N - np) none) with
  | .ok .nx τ => .ok .non (pad np τ)
  | .ok (.rt w) τ => .ok w (pad np τ)
  | .exc x τ => .exc x (pad np τ)
  | _ => .stuck
def call0 (m : List T → RE T) (ts : List T) : M T := fun τ => match m ts with
  | .ok w _ => .ok w τ
  | .exc x _ => .exc x τ
  | .stuck => .stuck
/-- slot i is lent as argument j -/
def call1 (m : List T → RE T) (i j : Nat) (ts : List T) : M T := fun τ => match τ[i]? with
  | some (some t) => match m (ts.set j t) with
    | .ok w ps => match ps[j]? with
      | some (some t') => .ok w (τ.set i (some t'))
      | _ => .stuck
    | .exc x ps => match ps[j]? with
      | some (some t') => .exc x (τ.set i (some t'))
      | _ => .stuck
    | .stuck => .stuck
  | _ => .stuck
/-- errors are not let out -/
def noX (m : List T → RE T) (ts : List T) : RE T := match m ts with
  | .exc _ _ => .stuck
  | r => r
theorem runF_ok {s : M Ctl} {np N : Nat} {ts : List T} {w : T} {τ : Tau} (h : noX (runF s np N) ts = .ok w τ) : τ.length = np := by
  unfold noX runF at h
  split at h
  · cases h
  · split at h
    · cases h; exact pad_len _ _
    · cases h; exact pad_len _ _
    · cases h
    · cases h
theorem runF_exc {s : M Ctl} {np N : Nat} {ts : List T} {x : Exn} {τ : Tau} (h : noX (runF s np N) ts = .exc x τ) : τ.length = np := by
  unfold noX at h
  split at h
  · cases h
  · rename_i r hr
    rw [h] at hr
    exact (hr x τ rfl).elim
def b2i (b : Bool) : Int := if b = true then 1 else 0
mutual
/-- == of data -/
def tEq : T → T → Bool
  | .non, .non => true
  | .bl a, .bl b => a == b
  | .bl a, .int j => b2i a == j
  | .int i, .bl b => i == b2i b
  | .int i, .int j => i == j
  | .str x, .str y => x == y
  | .lst xs, .lst ys => tEqs xs ys
  | .tup xs, .tup ys => tEqs xs ys
  | _, _ => false
def tEqs : List T → List T → Bool
  | [], [] => true
  | x :: xs, y :: ys => tEq x y && tEqs xs ys
  | _, _ => false
end
mutual
/-- data without dicts, sets, instances -/
def plain : T → Bool
  | .non => true
  | .bl _ => true
  | .int _ => true
  | .str x => x.cps.all (· < 0x110000)
  | .tup xs => plains xs
  | .lst xs => plains xs
  | .dct _ => false
  | .set _ => false
  | .ins _ _ => false
def plains : List T → Bool
  | [] => true
  | x :: xs => plain x && plains xs
end
mutual
def dep : T → Nat
  | .tup xs => deps xs + 1
  | .lst xs => deps xs + 1
  | _ => 0
def deps : List T → Nat
  | [] => 0
  | x :: xs => max (dep x) (deps xs)
end
def eqOk (x : T) : Bool := plain x && decide (dep x ≤ 60)
/-- scalars that are not a number against a truth value -/
def scP : T → T → Bool
  | .bl _, .int _ => false
  | .int _, .bl _ => false
  | x, y => isScal x && isScal y
def cmpOk (x y : T) : Bool := scP x y || (eqOk x && eqOk y)
def oEq (x y : T) : Option T := if cmpOk x y = true then some (.bl (tEq x y)) else none
def oNe (x y : T) : Option T := if cmpOk x y = true then some (.bl (!tEq x y)) else none
def knd : T → Nat
  | .tup _ => 0
  | .str _ => 1
  | _ => 2
mutual
def isKey : T → Bool
  | .non => true
  | .bl _ => true
  | .int _ => true
  | .str _ => true
  | .tup xs => isKeys xs
  | _ => false
def isKeys : List T → Bool
  | [] => true
  | x :: xs => isKey x && isKeys xs
end
/-- the dict may be asked for k -/
def askOk (kvs : List (T × T)) (k : T) : Bool := isKey k && decide (dep k ≤ 8) && decide (knd k ≤ 1) && kvs.all fun e => decide (knd e.1 = knd k) && decide (dep e.1 ≤ 8)
def look (kvs : List (T × T)) (k : T) : Option T := (kvs.find? fun e => tEq e.1 k).map (·.2)
def store (kvs : List (T × T)) (k v : T) : List (T × T) := if (look kvs k).isSome = true then kvs.map (fun e => if tEq e.1 k = true then (e.1, v) else e) else kvs ++ [(k, v)]
def szL : Nat := 16777216
def pyIx (n : Nat) (i : Int) : Option Nat := if 0 ≤ i then (if i < n then some i.toNat else none) else if -(n : Int) ≤ i then some (i + n).toNat else none
def pyAt {α : Type} (xs : List α) (i : Int) : Option α := (pyIx xs.length i).bind fun j => xs[j]?
def oGet : T → T → Option T
  | .lst xs, .int i => pyAt xs i
  | .tup xs, .int i => pyAt xs i
  | .str z, .int i => if z.length ≤ szL then (pyAt z.cps.toList i).map fun c => .str ⟨#[c]⟩ else none
  | .dct kvs, k => if askOk kvs k = true then look kvs k else none
  | _, _ => none
def oLen : T → Option T
  | .str z => if z.length ≤ szL then some (.int z.length) else none
  | .lst xs => some (.int xs.length)
  | .tup xs => some (.int xs.length)
  | .dct kvs => some (.int kvs.length)
  | _ => none
def inB : T → T → Option Bool
  | .str x, .str y => if x.cps.size = 1 then some (decide (x.cps.toList.headD 0 ∈ y.cps.toList)) else none
  | x, .lst ys => if isScal x = true ∧ ys.all isScal = true then some (ys.any fun y => tEq y x) else none
  | x, .tup ys => if isScal x = true ∧ ys.all isScal = true then some (ys.any fun y => tEq y x) else none
  | x, .dct kvs => if askOk kvs x = true then some (look kvs x).isSome else none
  | _, _ => none
def oIn (x y : T) : Option T := (inB x y).map .bl
def oNotIn (x y : T) : Option T := (inB x y).map fun b => .bl (!b)
def oAdd : T → T → Option T
  | .int i, .int j => some (.int (i + j))
  | .str x, .str y => if x.length + y.length ≤ szL then some (.str (x ++ y)) else none
  | _, _ => none
def oI (f : Int → Int → Option T) : T → T → Option T
  | .int i, .int j => f i j
  | _, _ => none
def oSub : T → T → Option T := oI fun i j => some (.int (i - j))
def oMul : T → T → Option T := oI fun i j => if (-(2 ^ 64) < i ∧ i < 2 ^ 64) ∨ (-(2 ^ 64) < j ∧ j < 2 ^ 64) then some (.int (i * j)) else none
def oDiv : T → T → Option T := oI fun i j => if 0 < j ∧ j < 18446744073709551616 then some (.int (i / j)) else none
def oMod : T → T → Option T := oI fun i j => if 0 < j then some (.int (i % j)) else none
def oPow : T → T → Option T := oI fun i j => if 0 ≤ j ∧ j ≤ 1000000 ∧ i.natAbs < 2 ^ 64 then some (.int (i ^ j.toNat)) else none
def oLt : T → T → Option T := oI fun i j => some (.bl (decide (i < j)))
def oLe : T → T → Option T := oI fun i j => some (.bl (decide (i ≤ j)))
def oGt : T → T → Option T := oI fun i j => some (.bl (decide (j < i)))
def oGe : T → T → Option T := oI fun i j => some (.bl (decide (j ≤ i)))
def isNon : T → Bool
  | .non => true
  | _ => false
def oIsN (x y : T) : Option T := if isNon y = true then some (.bl (isNon x)) else none
def oNotN (x y : T) : Option T := if isNon y = true then some (.bl (!isNon x)) else none
def oNeg : T → Option T
  | .int i => some (.int (-i))
  | _ => none
/-- the built-in type's name -/
def tyName : T → Option String
  | .non => some "NoneType"
  | .bl _ => some "bool"
  | .int _ => some "int"
  | .str _ => some "str"
  | .tup _ => some "tuple"
  | .lst _ => some "list"
  | .dct _ => some "dict"
  | _ => none
def isA1 (n : String) (t : String) : Bool := n == t || (n == "bool" && t == "int")
def oIsA (x : T) (ts : List String) : Option T := (tyName x).map fun n => .bl (ts.any (isA1 n))
def oTup (ts : List T) : Option T := if ts.length ≤ szL then some (.tup ts) else none
def oLst (ts : List T) : Option T := if ts.length ≤ szL then some (.lst ts) else none
def asL : T → M (List T)
  | .lst xs => M.pure xs
  | _ => M.stuck
def wipeT (τ : Tau) : List Nat → Tau
  | [] => τ
  | v :: vs => (wipeT τ vs).set v none
def wipeM (vs : List Nat) : M Unit := fun τ => .ok () (wipeT τ vs)
/-- the turns of a list comprehension -/
def lcM (vs : List Nat) (bg : T → M Unit) (et : M Bool) (ee : M T) : List T → List T → M (List T)
  | [], acc => M.pure acc
  | x :: xs, acc => wipeM vs >>= fun _ => bg x >>= fun _ => et >>= fun b => if b = true then ee >>= fun w => (if acc.length < szL then M.pure () else M.stuck) >>= fun _ => wipeM vs >>= fun _ => lcM vs bg et ee xs (acc ++ [w]) else wipeM vs >>= fun _ => lcM vs bg et ee xs acc
/-- x.append(..) at slot i -/
def appM (i : Nat) (w : T) : M T := get i >>= fun x => asL x >>= fun xs => (if xs.length < szL then M.pure () else M.stuck) >>= fun _ => put i (.lst (xs ++ [w])) >>= fun _ => M.pure .non
/-- xs[k] = w -/
def setL (xs : List T) (k w : T) : Option (List T) := match k with
  | .int k => (pyIx xs.length k).map fun j => xs.set j w
  | _ => none
def setC (x k w : T) : Option T := match x with
  | .lst xs => (setL xs k w).map .lst
  | .dct kvs => if askOk kvs k = true ∧ kvs.length < szL then some (.dct (store kvs k w)) else none
  | _ => none
def setM (i : Nat) (w k : T) : M Unit := get i >>= fun x => M.of (setC x k w) >>= fun y => put i y
def setML (i : Nat) (w k : T) : M Unit := get i >>= fun x => asL x >>= fun xs => M.of (setL xs k w) >>= fun ys => put i (.lst ys)
def sSetI (i : Nat) (e ek : M T) : M Ctl := e >>= fun w => get i >>= fun _ => ek >>= fun k => setM i w k >>= fun _ => M.pure .nx
def sSetL (i : Nat) (e ek : M T) : M Ctl := e >>= fun w => get i >>= fun _ => ek >>= fun k => setML i w k >>= fun _ => M.pure .nx
def oElems : T → Option (List T)
  | .lst xs => some xs
  | .tup xs => some xs
  | .str z => some (z.cps.toList.map fun c => .str ⟨#[c]⟩)
  | .dct kvs => some (kvs.map (·.1))
  | _ => none
def intsL (lo : Int) (n : Nat) : List T := (List.range n).map fun (i : Nat) => .int (lo + (i : Int))
def fRange1 : List T → Option (List T)
  | [.int j] => if -(2 ^ 62) ≤ j ∧ j < 2 ^ 62 then some (intsL 0 j.toNat) else none
  | _ => none
def fRange2 : List T → Option (List T)
  | [.int i, .int j] => if (-(2 ^ 62) ≤ i ∧ i < 2 ^ 62) ∧ (-(2 ^ 62) ≤ j ∧ j < 2 ^ 62) then some (intsL i (j - i).toNat) else none
  | _ => none
def numberedF : Nat → List T → List T
  | _, [] => []
  | i, x :: xs => .tup [.int (i : Int), x] :: numberedF (i + 1) xs
def numbered (xs : List T) : List T := numberedF 0 xs
def fEnum : List T → Option (List T)
  | [.lst xs] => some (numbered xs)
  | [.tup xs] => some (numbered xs)
  | _ => none
def puts : List Nat → List T → M Unit
  | [], [] => M.pure ()
  | i :: is, x :: xs => put i x >>= fun _ => puts is xs
  | _, _ => M.stuck
def putT (is : List Nat) : T → M Unit
  | .tup xs => puts is xs
  | _ => M.stuck
def sLc (vs : List Nat) (ei : M (List T)) (bg : T → M Unit) (et : M Bool) (ee : M T) : M T := ei >>= fun xs => lcM vs bg et ee xs [] >>= fun ws => M.pure (.lst ws)
def fLen : List T → Option T
  | [x] => oLen x
  | _ => none
def fAbs : List T → Option T
  | [.int i] => some (.int (if i < 0 then -i else i))
  | _ => none
def fInt : List T → Option T
  | [.int i] => some (.int i)
  | [.bl b] => some (.int (if b then 1 else 0))
  | _ => none
end TL
end
section
set_option Elab.async false
set_option linter.all false
set_option autoImplicit false
namespace TL
open PySem
/-- errors of a block are not let out -/
def noE {α : Type} (m : M α) : M α := fun τ => match m τ with
  | .ok a τ' => .ok a τ'
  | .exc _ _ => .stuck
  | .stuck => .stuck
theorem noE_ne {α : Type} (m : M α) : ∀ τ y τ', noE m τ ≠ .exc y τ' := fun τ y τ' h => by
  unfold noE at h
  split at h <;> cases h
mutual
def tok : T → List (Int ⊕ List Nat)
  | .non => []
  | .bl b => [.inl (if b = true then 1 else 0)]
  | .int n => [.inl n]
  | .str x => [.inr x.cps.toList]
  | .lst xs => toks xs
  | .tup xs => toks xs
  | .dct _ => []
  | .set _ => []
  | .ins _ _ => []
def toks : List T → List (Int ⊕ List Nat)
  | [] => [.inl 0]
  | x :: xs => .inl 1 :: (tok x ++ toks xs)
end
def fList : List T → Option (List T)
  | [.lst xs] => some xs
  | [.tup xs] => some xs
  | [.dct kvs] => some (kvs.map (·.1))
  | _ => none
def ixS (n d : Nat) : Option Int → Nat
  | none => d
  | some v => if v < 0 then (v + (n : Int)).toNat else min v.toNat n
def cut (xs : List T) (lo hi : Option Int) : List T := (xs.drop (ixS xs.length 0 lo)).take (ixS xs.length xs.length hi - ixS xs.length 0 lo)
def asI : T → M Int
  | .int i => M.pure i
  | _ => M.stuck
def oCut (x : T) (lo hi : Option Int) : Option T := match x with
  | .lst xs => some (.lst (cut xs lo hi))
  | .tup xs => some (.tup (cut xs lo hi))
  | _ => none
def oCutL (x : T) (lo hi : Option Int) : Option (List T) := match x with
  | .lst xs => some (cut xs lo hi)
  | _ => none
def newC (f : Option (List T)) : M T := M.of f >>= fun ws => immsC ws >>= fun ws => M.pure (.lst ws)
end TL
end
section
set_option Elab.async false
set_option linter.all false
set_option autoImplicit false
namespace TL
open PySem
def oFld (c f : Str) : T → Option T
  | .ins c' fs => if c' = c then fs.lookup f else none
  | _ => none
/-- an instance of the class, with no attribute m of its own -/
def oIns (c m : Str) : T → Option T
  | .ins c' fs => if c' = c ∧ fs.lookup m = none then some (.ins c' fs) else none
  | _ => none
def oCls (c : Str) : T → Option T
  | .ins c' fs => if c' = c then some (.ins c' fs) else none
  | _ => none
def putFT (f : Str) (x : T) : List (Str × T) → List (Str × T)
  | [] => [(f, x)]
  | (g, y) :: r => if g = f then (g, x) :: r else (g, y) :: putFT f x r
def setFT (c f : Str) (w : T) : T → Option T
  | .ins c' fs => if c' = c ∧ fs.length < 1000 then some (.ins c' (putFT f w fs)) else none
  | _ => none
/-- slot i .f = e -/
def sFldM (c : Str) (i : Nat) (f : Str) (e : M T) : M Ctl := e >>= fun w => get i >>= fun x => M.of (setFT c f w x) >>= fun y => put i y >>= fun _ => M.pure .nx
/-- C(..) -/
def makeM (c : Str) (m : List T → RE T) (ts : List T) : M T := fun τ => match m (.ins c [] :: ts) with
  | .ok .non ps => match ps[0]? with
    | some (some t) => .ok t τ
    | _ => .stuck
  | .exc x _ => .exc x τ
  | _ => .stuck
def asD : T → M Unit
  | .dct _ => M.pure ()
  | _ => M.stuck
def oGet1 : T → T → Option T
  | .dct kvs, k => if askOk kvs k = true then some ((look kvs k).getD .non) else none
  | _, _ => none
def oClear : T → Option T
  | .lst _ => some (.lst [])
  | .dct _ => some (.dct [])
  | _ => none
def clearM (i : Nat) : M T := get i >>= fun x => M.of (oClear x) >>= fun y => put i y >>= fun _ => M.pure .non
/-- a op b op' c -/
def chainM (f g : T → T → Option T) (ea eb ec : M T) : M T := ea >>= fun x => eb >>= fun y => M.of (f x y) >>= fun z => asB z >>= fun b => if b = true then ec >>= fun u => M.of (g y u) else M.pure (.bl false)
def oSeq : T → Option (List T)
  | .lst xs => some xs
  | .tup xs => some xs
  | _ => none
def starM (e : M T) (f : M (List T)) : M (List T) := e >>= fun x => M.of (oSeq x) >>= fun xs => immsC xs >>= fun xs => f >>= fun ys => M.pure (xs ++ ys)
def at2 : T → T → Option T
  | .lst xs, .int j => pyAt xs j
  | _, _ => none
def put2 : T → T → T → Option T
  | .lst xs, .int j, y => (pyIx xs.length j).map fun j => .lst (xs.set j y)
  | _, _, _ => none
def setIn (y k w : T) : Option T := match y with
  | .lst ys => (setL ys k w).map .lst
  | _ => none
def appIn (y w : T) : Option T := match y with
  | .lst ys => if ys.length < szL then some (.lst (ys ++ [w])) else none
  | _ => none
def isL : T → M Unit
  | .lst _ => M.pure ()
  | _ => M.stuck
/-- slot i [ej][ek] = e -/
def sSet2 (i : Nat) (e ej ek : M T) : M Ctl := e >>= fun w => get i >>= fun _ => ej >>= fun j => get i >>= fun x => M.of (at2 x j) >>= fun y => ek >>= fun k => M.of (setIn y k w) >>= fun z => M.of (put2 x j z) >>= fun x' => put i x' >>= fun _ => M.pure .nx
/-- slot i [ej].append(e) -/
def sApp2 (i : Nat) (ej e : M T) : M T := get i >>= fun _ => ej >>= fun j => get i >>= fun x => M.of (at2 x j) >>= fun y => isL y >>= fun _ => e >>= fun w => M.of (appIn y w) >>= fun z => M.of (put2 x j z) >>= fun x' => put i x' >>= fun _ => M.pure .non
/-- slot i [ej].clear() -/
def sClear2 (i : Nat) (ej : M T) : M T := get i >>= fun _ => ej >>= fun j => get i >>= fun x => M.of (at2 x j) >>= fun y => M.of (oClear y) >>= fun z => M.of (put2 x j z) >>= fun x' => put i x' >>= fun _ => M.pure .non
/-- the turns of a dict comprehension -/
def dcM (vs : List Nat) (bg : T → M Unit) (et : M Bool) (ek ev : M T) : List T → List (T × T) → M (List (T × T))
  | [], acc => M.pure acc
  | x :: xs, acc => wipeM vs >>= fun _ => bg x >>= fun _ => et >>= fun b => if b = true then ek >>= fun k => ev >>= fun w => (if askOk acc k = true ∧ acc.length < szL then M.pure () else M.stuck) >>= fun _ => wipeM vs >>= fun _ => dcM vs bg et ek ev xs (store acc k w) else wipeM vs >>= fun _ => dcM vs bg et ek ev xs acc
def sDc (vs : List Nat) (ei : M (List T)) (bg : T → M Unit) (et : M Bool) (ek ev : M T) : M T := ei >>= fun xs => dcM vs bg et ek ev xs [] >>= fun ws => M.pure (.dct ws)
def andM (ea eb : M T) : M T := ea >>= fun x => asB x >>= fun c => if c = true then eb else M.pure (.bl false)
def orM (ea eb : M T) : M T := ea >>= fun x => asB x >>= fun c => if c = true then M.pure (.bl true) else eb
def notM (ea : M T) : M T := ea >>= fun x => asB x >>= fun c => M.pure (.bl (!c))
def oRev : T → Option (List T)
  | .lst xs => some xs.reverse
  | _ => none
def oTru : T → Option Bool
  | .non => some false
  | .bl b => some b
  | .int i => some (i != 0)
  | .lst xs => some (!xs.isEmpty)
  | .tup xs => some (!xs.isEmpty)
  | _ => none
def starFM (e : M T) (f : M (List T)) : M (List T) := e >>= fun x => M.of (oSeq x) >>= fun xs => f >>= fun ys => M.pure (xs ++ ys)
end TL
end
section
set_option Elab.async false
set_option linter.all false
set_option autoImplicit false
namespace TL
open PySem
def op2 (f : T → T → Option T) (ea eb : M T) : M T := ea >>= fun x => eb >>= fun y => M.of (f x y)
def op1 (f : T → Option T) (ea : M T) : M T := ea >>= fun x => M.of (f x)
def con (t : T) : M T := M.pure t
def nilA : M (List T) := M.pure []
def consA (e : M T) (f : M (List T)) : M (List T) := e >>= fun x => f >>= fun xs => M.pure (x :: xs)
def fnA (f : List T → Option T) (a : M (List T)) : M T := a >>= fun ts => M.of (f ts)
def newA (f : List T → Option (List T)) (a : M (List T)) : M T := a >>= fun ts => M.of ((f ts).map .lst)
def newI (f : List T → Option (List T)) (a : M (List T)) : M T := a >>= fun ts => newC (f ts)
def toI (e : M T) : M T := e >>= immC
def toS (e : M T) : M T := e >>= scalC
def tst (e : M T) : M Bool := e >>= asB
def andT (e f : M Bool) : M Bool := e >>= fun b => if b = true then f else M.pure false
def orT (e f : M Bool) : M Bool := e >>= fun b => if b = true then M.pure true else f
def notT (e : M Bool) : M Bool := e >>= fun b => M.pure (!b)
def truT (e : M T) : M Bool := e >>= fun x => M.of (oTru x)
def ifE (e : M Bool) (ea eb : M T) : M T := e >>= fun b => if b = true then ea else eb
def callA (m : List T → RE T) (a : M (List T)) : M T := a >>= call0 m
def callL (m : List T → RE T) (i j : Nat) (a : M (List T)) : M T := a >>= call1 m i j
def makeA (c : Str) (m : List T → RE T) (a : M (List T)) : M T := a >>= makeM c m
def elems (e : M T) : M (List T) := e >>= fun x => M.of (oElems x)
def rng1 (a : M (List T)) : M (List T) := a >>= fun ts => M.of (fRange1 ts)
def rng2 (a : M (List T)) : M (List T) := a >>= fun ts => M.of (fRange2 ts)
def enumM (e : M T) : M (List T) := e >>= fun x => M.of (fEnum [x])
def forS (e : M (List T)) (bg : T → M Unit) (b : M Ctl) : M Ctl := e >>= sFor bg b
def appS (i : Nat) (e : M T) : M T := get i >>= fun x => asL x >>= fun _ => e >>= fun w => appM i w
def get1D (ed ek : M T) : M T := ed >>= fun x => asD x >>= fun _ => ek >>= fun k => M.of (oGet1 x k)
def cutN (e : M T) (el eh : M (Option Int)) : M T := e >>= fun x => el >>= fun lo => eh >>= fun hi => M.of (oCut x lo hi)
def cutI (e : M T) (el eh : M (Option Int)) : M T := e >>= fun x => el >>= fun lo => eh >>= fun hi => newC (oCutL x lo hi)
def noPart : M (Option Int) := M.pure none
def part (e : M T) : M (Option Int) := e >>= fun x => asI x >>= fun i => M.pure (some i)
def revI (e : M T) : M T := e >>= fun x => newC (oRev x)
def isaM (ts : List String) (e : M T) : M T := e >>= fun x => M.of (oIsA x ts)
def unpM (bg : T → M Unit) (e : M T) : M Ctl := e >>= fun w => bg w >>= fun _ => M.pure .nx
def oFldM (c f : Str) (e : M T) : M T := e >>= fun x => M.of (oFld c f x)
def selfA (c m : Str) (ea : M T) (e : M (List T)) : M (List T) := (ea >>= fun x => M.of (oIns c m x)) >>= fun x => e >>= fun xs => M.pure (x :: xs)
def propA (c : Str) (ea : M T) : M (List T) := (ea >>= fun x => M.of (oCls c x)) >>= fun x => M.pure [] >>= fun xs => M.pure (x :: xs)
/-- a list comprehension over slot i's own list, read anew at each turn -/
def lcO (vs : List Nat) (i : Nat) (bg : T → M Unit) (et : M Bool) (ee : M T) : Nat → Nat → List T → M (List T)
  | 0, _, _ => M.stuck
  | n + 1, k, acc => get i >>= fun x => asL x >>= fun xs => match xs[k]? with
    | none => M.pure acc
    | some t => immC t >>= fun t => wipeM vs >>= fun _ => bg t >>= fun _ => et >>= fun b => if b = true then ee >>= fun w => (if acc.length < szL then M.pure () else M.stuck) >>= fun _ => wipeM vs >>= fun _ => lcO vs i bg et ee n (k + 1) (acc ++ [w]) else wipeM vs >>= fun _ => lcO vs i bg et ee n (k + 1) acc
def sLcO (vs : List Nat) (i : Nat) (bg : T → M Unit) (et : M Bool) (ee : M T) : M T := get i >>= fun x => asL x >>= fun xs => lcO vs i bg et ee (xs.length + 1) 0 [] >>= fun ws => M.pure (.lst ws)
end TL
end
section
set_option Elab.async false
set_option linter.all false
set_option autoImplicit false
namespace TL
open PySem
def fTup : List T → Option (List T)
  | [.lst xs] => some xs
  | [.tup xs] => some xs
  | _ => none
/-- tuple(..) of fixed things -/
def tupA (a : M (List T)) : M T := a >>= fun ts => M.of (fTup ts) >>= fun ws => immsC ws >>= fun ws => M.pure (.tup ws)
def fCat : List T → Option (List T)
  | [.lst xs, .lst ys] => if xs.length + ys.length ≤ szL then some (xs ++ ys) else none
  | _ => none
def fCatT : List T → Option (List T)
  | [.tup xs, .tup ys] => if xs.length + ys.length ≤ szL then some (xs ++ ys) else none
  | _ => none
/-- t + u of tuples of fixed things -/
def catTA (a : M (List T)) : M T := a >>= fun ts => M.of (fCatT ts) >>= fun ws => immsC ws >>= fun ws => M.pure (.tup ws)
/-- x in o by an own def -/
def inO (c : Str) (neg : Bool) (m : List T → RE T) (ea eb : M T) : M T := (ea >>= fun x => eb >>= fun y => M.of (oCls c y) >>= fun y => M.pure [y, x]) >>= call0 m >>= fun w => asB w >>= fun b => M.pure (.bl (if neg = true then !b else b))
/-- o[i] by an own def -/
def ixO (c : Str) (m : List T → RE T) (ea eb : M T) : M T := (ea >>= fun x => eb >>= fun y => M.of (oCls c x) >>= fun x => M.pure [x, y]) >>= call0 m
/-- xs * n of a list of one's own -/
def repM (ea eb : M T) : M T := ea >>= fun x => eb >>= fun y => asL x >>= fun xs => asI y >>= fun k => if 0 ≤ k ∧ k ≤ 1000000 ∧ xs.length * k.toNat ≤ szL then M.pure (.lst (List.replicate k.toNat xs).flatten) else M.stuck
end TL
end
section
set_option Elab.async false
set_option linter.all false
set_option autoImplicit false
namespace TL
open PySem
def asS : T → M Unit
  | .str _ => M.pure ()
  | _ => M.stuck
/-- s.m(e) of a text -/
def strM (f : List T → Option T) (ea eb : M T) : M T := ea >>= fun x => asS x >>= fun _ => eb >>= fun y => M.of (f [x, y])
end TL
end
section
set_option Elab.async false
set_option linter.all false
set_option autoImplicit false
namespace TL
open PySem
/-- isinstance(x, built-in types), x perhaps an instance of one of the classes cs -/
def oIsAI (cs : List Str) : T → List String → Option T
  | .ins c _, _ => if c ∈ cs then some (.bl false) else none
  | x, ts => oIsA x ts
def isaI (cs : List Str) (ts : List String) (e : M T) : M T := e >>= fun x => M.of (oIsAI cs x ts)
/-- isinstance(x, own class c) -/
def oIsO (cs : List Str) (c : Str) : T → Option T
  | .ins c' _ => if c' ∈ cs then some (.bl (decide (c' = c))) else none
  | x => (tyName x).map fun _ => .bl false
def isaO (cs : List Str) (c : Str) (e : M T) : M T := e >>= fun x => M.of (oIsO cs c x)
end TL
end
section
set_option Elab.async false
set_option linter.all false
set_option autoImplicit false
namespace TL
open PySem
end TL
end
section
set_option Elab.async false
set_option linter.all false
set_option autoImplicit false
namespace TL
open PySem
def must1 : Ctl → M Ctl
  | .nx => M.stuck
  | c => M.pure c
/-- a body that may not fall off its end -/
def sMust (s : M Ctl) : M Ctl := s >>= must1
/-- e answers slot i: it is moved out -/
def mvA (i : Nat) (e : M T) : M T := e >>= fun _ => mv i
def only1 : Ctl → M Ctl
  | .nx => M.pure .nx
  | _ => M.stuck
/-- a statement that goes on, and nothing else -/
def onlyNx (s : M Ctl) : M Ctl := noE s >>= only1
end TL
end
section
set_option Elab.async false
set_option linter.all false
set_option autoImplicit false
namespace TL
open PySem
def fRepT : List T → Option (List T)
  | [.tup xs, .int k] => if 2 ≤ k ∧ k ≤ 1000 ∧ xs.length ≤ 1000 then some (List.replicate k.toNat xs).flatten else none
  | _ => none
/-- t * n of a tuple of fixed things -/
def repTA (a : M (List T)) : M T := a >>= fun ts => M.of (fRepT ts) >>= fun ws => immsC ws >>= fun ws => M.pure (.tup ws)
end TL
end
section
set_option Elab.async false
set_option linter.all false
set_option autoImplicit false
namespace TL
open PySem
/-- the set may be asked for k -/
def askS (xs : List T) (k : T) : Bool := isKey k && decide (dep k ≤ 8) && decide (knd k ≤ 1) && xs.all fun e => decide (knd e = knd k) && decide (dep e ≤ 8)
def memS (xs : List T) (k : T) : Bool := xs.any fun e => tEq e k
def roomS (xs : List T) (k : T) : Bool := if knd k = 0 then decide (xs.length + 1 < 4900) else decide (xs.length + 1 < 4096)
def addX (xs : List T) (k : T) : List T := if memS xs k = true then xs else xs ++ [k]
def asSet : T → M (List T)
  | .set xs => M.pure xs
  | _ => M.stuck
def setAddM (i : Nat) (w : T) : M T := get i >>= fun x => asSet x >>= fun xs => (if askS xs w = true ∧ roomS xs w = true then M.pure () else M.stuck) >>= fun _ => put i (.set (addX xs w)) >>= fun _ => M.pure .non
/-- slot i .add(e) -/
def sAddS (i : Nat) (e : M T) : M T := get i >>= fun x => asSet x >>= fun _ => e >>= fun w => setAddM i w
/-- {e} -/
def set1M (e : M T) : M T := e >>= fun x => if askS [] x = true then M.pure (.set [x]) else M.stuck
/-- the values of a dict, walked -/
def oVals : T → Option (List T)
  | .dct kvs => some (kvs.map (·.2))
  | _ => none
def valsM (e : M T) : M (List T) := e >>= fun x => M.of (oVals x)
end TL
end
section
set_option Elab.async false
set_option linter.all false
set_option autoImplicit false
namespace TL
open PySem
end TL
end
section
set_option Elab.async false
set_option linter.all false
set_option autoImplicit false
namespace TL
open PySem
/-- keys that are tuples, plain values -/
def dOk (xs : List (T × T)) : Bool := xs.all fun e => isKey e.1 && decide (knd e.1 = 0) && decide (dep e.1 ≤ 8) && eqOk e.2
def okX : T → T → Bool
  | .dct xs, .dct ys => dOk xs && dOk ys
  | x, y => eqOk x && eqOk y
end TL
end
section
set_option Elab.async false
set_option linter.all false
set_option autoImplicit false
namespace TL
open PySem
def eqO (c : Str) (neg : Bool) (m : List T → RE T) (ea eb : M T) : M T := (ea >>= fun x => eb >>= fun y => M.of (oCls c x) >>= fun x => M.of (oCls c y) >>= fun y => M.pure [x, y]) >>= call0 m >>= fun w => asB w >>= fun b => M.pure (.bl (if neg = true then !b else b))
end TL
end
section
set_option Elab.async false
set_option linter.all false
set_option autoImplicit false
namespace TL
open PySem
end TL
end
section
set_option Elab.async false
set_option linter.all false
set_option autoImplicit false
namespace TL
open PySem
end TL
end
section
set_option Elab.async false
set_option linter.all false
set_option autoImplicit false
namespace TL
open PySem
end TL
end
section
set_option Elab.async false
set_option Elab.async false
set_option linter.all false
set_option autoImplicit false
set_option maxRecDepth 100000
set_option maxHeartbeats 4000000
namespace TL
end TL
end
section
set_option Elab.async false
set_option linter.all false
set_option autoImplicit false
namespace TL
open PySem
end TL
end
section
set_option Elab.async false
set_option linter.all false
set_option autoImplicit false
namespace TL
open PySem
end TL
end
section
set_option Elab.async false
set_option linter.all false
set_option autoImplicit false
namespace TL
end TL
end
section
set_option Elab.async false
set_option Elab.async false
set_option linter.all false
set_option autoImplicit false
set_option maxRecDepth 100000
set_option maxHeartbeats 4000000
namespace TL
open PySem
def dispT (ek ev : M T) : M T := ek >>= fun k => ev >>= fun v => match k with
  | .tup xs => if askOk [] (.tup xs) = true then M.pure (.dct [(.tup xs, v)]) else M.stuck
  | _ => M.stuck
/-- tuple(..) of what is frozen -/
def tupF (a : M (List T)) : M T := a >>= fun ts => M.of (fTup ts) >>= fun ws => M.pure (.tup ws)
end TL
end
section
set_option Elab.async false
set_option linter.all false
set_option autoImplicit false
namespace TL
open PySem
/-- raise c(e, ..), c's fields fs in the order of the arguments -/
def sRaise (c : Str) (fs : List Str) (e : M (List T)) : M Ctl := e >>= fun ws => if ws.length = fs.length then fun τ => .exc ⟨c, (fs.zip ws).reverse⟩ τ else M.stuck
def tauR (f : Tau → Tau) (r : RE Ctl) : RE Ctl := match r with
  | .ok c τ => .ok c (f τ)
  | .exc _ _ => .stuck
  | .stuck => .stuck
/-- a suite, the error in slot i while it runs -/
def sAs (i : Nat) (x : Exn) (h : M Ctl) : M Ctl := fun τ => tauR (fun τ => τ.set i none) (h (τ.set i (some (.ins x.c x.fs))))
def sAs0 (h : M Ctl) : M Ctl := fun τ => tauR id (h τ)
/-- the clauses -/
def sHand : List (Str × Option Nat × M Ctl) → Exn → M Ctl
  | [], x => fun τ => .exc x τ
  | (c, o, h) :: r, x => if exSub x.c c = true then (match o with
    | some i => sAs i x h
    | none => sAs0 h) else sHand r x
/-- try: b, the clauses hs; cs: the classes that may come -/
def sTry (cs : List Str) (b : M Ctl) (hs : List (Str × Option Nat × M Ctl)) : M Ctl := fun τ => match b τ with
  | .exc x τ' => if x.c ∈ cs then sHand hs x τ' else .stuck
  | r => r
/-- a field of the error in slot i -/
def exF (i : Nat) (f : Str) : M T := get i >>= fun t => match t with
  | .ins _ fs => M.of (fs.lookup f)
  | _ => M.stuck
/-- isinstance(e, b) of the error in slot i, of the class a -/
def exI (i : Nat) (a b : Str) : M T := get i >>= fun t => match t with
  | .ins c _ => if c = a then M.pure (.bl (exSub a b || decide (b = PySem.Str.ofString "ValueError"))) else M.stuck
  | _ => M.stuck
/-- a slice of a frozen list -/
def cutF (e : M T) (el eh : M (Option Int)) : M T := e >>= fun x => el >>= fun lo => eh >>= fun hi => M.of ((oCutL x lo hi).map .lst)
end TL
end
section
set_option Elab.async false
set_option linter.all false
set_option autoImplicit false
namespace TL
open PySem
/-- the step goes well, and Q holds behind it -/
def Ok {α : Type} (m : M α) (τ : Tau) (Q : α → Tau → Prop) : Prop := ∃ a τ', m τ = .ok a τ' ∧ Q a τ'
/-- the def goes well -/
def Fok (f : List T → RE T) (ts : List T) (Q : T → Tau → Prop) : Prop := ∃ w ps, f ts = .ok w ps ∧ Q w ps
section
variable {α β : Type} {τ : Tau} {Q : T → Tau → Prop} {QB : Bool → Tau → Prop} {QC : Ctl → Tau → Prop} {QL : List T → Tau → Prop} {QU : Unit → Tau → Prop}
theorem ok_imp {m : M α} {Q Q' : α → Tau → Prop} (h : Ok m τ Q) (i : ∀ a τ', Q a τ' → Q' a τ') : Ok m τ Q' := by
  obtain ⟨a, τ', e, q⟩ := h; exact ⟨a, τ', e, i _ _ q⟩
theorem fok_imp {f : List T → RE T} {ts : List T} {Q Q' : T → Tau → Prop} (h : Fok f ts Q) (i : ∀ a τ', Q a τ' → Q' a τ') : Fok f ts Q' := by
  obtain ⟨a, τ', e, q⟩ := h; exact ⟨a, τ', e, i _ _ q⟩
theorem ok_bind {m : M α} {f : α → M β} {Q : β → Tau → Prop} (h : Ok m τ fun a τ' => Ok (f a) τ' Q) : Ok (m >>= f) τ Q := by
  obtain ⟨a, τ', e, b, τ2, e2, q⟩ := h
  refine ⟨b, τ2, ?_, q⟩
  show (m τ).next f = _
  rw [e]; exact e2
theorem ok_pure {a : α} {Q : α → Tau → Prop} (h : Q a τ) : Ok (M.pure a) τ Q := ⟨a, τ, rfl, h⟩
theorem ok_of {o : Option α} {a : α} {Q : α → Tau → Prop} (e : o = some a) (h : Q a τ) : Ok (M.of o) τ Q := by subst e; exact ⟨a, τ, rfl, h⟩
theorem ok_get {i : Nat} {t : T} (e : τ[i]? = some (some t)) (h : Q t τ) : Ok (get i) τ Q := ⟨t, τ, by unfold get; rw [e], h⟩
theorem ok_mv {i : Nat} {t : T} (e : τ[i]? = some (some t)) (h : Q t (τ.set i none)) : Ok (mv i) τ Q := ⟨t, _, by unfold mv; rw [e], h⟩
theorem ok_put {i : Nat} {t : T} {Q : Unit → Tau → Prop} (h : Q () (τ.set i (some t))) : Ok (put i t) τ Q := ⟨(), _, rfl, h⟩
theorem ok_con {t : T} (h : Q t τ) : Ok (con t) τ Q := ⟨t, τ, rfl, h⟩
theorem ok_op2 {f : T → T → Option T} {ea eb : M T} (h : Ok ea τ fun x τ1 => Ok eb τ1 fun y τ2 => ∃ w, f x y = some w ∧ Q w τ2) : Ok (op2 f ea eb) τ Q := ok_bind (ok_imp h fun x τ1 h => ok_bind (ok_imp h fun y τ2 ⟨w, e, q⟩ => ok_of e q))
theorem ok_op1 {f : T → Option T} {ea : M T} (h : Ok ea τ fun x τ1 => ∃ w, f x = some w ∧ Q w τ1) : Ok (op1 f ea) τ Q := ok_bind (ok_imp h fun x τ1 ⟨w, e, q⟩ => ok_of e q)
theorem ok_nil (h : QL [] τ) : Ok nilA τ QL := ok_pure h
theorem ok_cons {e : M T} {f : M (List T)} (h : Ok e τ fun x τ1 => Ok f τ1 fun xs τ2 => QL (x :: xs) τ2) : Ok (consA e f) τ QL := ok_bind (ok_imp h fun x τ1 h => ok_bind (ok_imp h fun xs τ2 h => ok_pure h))
theorem ok_fnA {f : List T → Option T} {a : M (List T)} (h : Ok a τ fun ts τ1 => ∃ w, f ts = some w ∧ Q w τ1) : Ok (fnA f a) τ Q := ok_bind (ok_imp h fun x τ1 ⟨w, e, q⟩ => ok_of e q)
theorem ok_newA {f : List T → Option (List T)} {a : M (List T)} (h : Ok a τ fun ts τ1 => ∃ w, f ts = some w ∧ Q (.lst w) τ1) : Ok (newA f a) τ Q := ok_bind (ok_imp h fun x τ1 ⟨w, e, q⟩ => ok_of (by rw [e]; rfl) q)
theorem ok_newC {o : Option (List T)} {w : List T} (e : o = some w) (hi : imms w = true) (h : Q (.lst w) τ) : Ok (newC o) τ Q := by
  subst e
  exact ok_bind (ok_pure (ok_bind (by unfold immsC; rw [if_pos hi]; exact ok_pure (ok_pure h))))
theorem ok_newI {f : List T → Option (List T)} {a : M (List T)} (h : Ok a τ fun ts τ1 => ∃ w, f ts = some w ∧ imms w = true ∧ Q (.lst w) τ1) : Ok (newI f a) τ Q := ok_bind (ok_imp h fun x τ1 ⟨w, e, hi, q⟩ => ok_newC e hi q)
theorem ok_toI {e : M T} (h : Ok e τ fun w τ1 => imm w = true ∧ Q w τ1) : Ok (toI e) τ Q := ok_bind (ok_imp h fun w τ1 ⟨hi, q⟩ => by unfold immC; rw [if_pos hi]; exact ok_pure q)
theorem ok_toS {e : M T} (h : Ok e τ fun w τ1 => isScal w = true ∧ Q w τ1) : Ok (toS e) τ Q := ok_bind (ok_imp h fun w τ1 ⟨hi, q⟩ => by unfold scalC; rw [if_pos hi]; exact ok_pure q)
theorem ok_isa {ts : List String} {e : M T} (h : Ok e τ fun x τ1 => ∃ w, oIsA x ts = some w ∧ Q w τ1) : Ok (isaM ts e) τ Q := ok_bind (ok_imp h fun x τ1 ⟨w, e, q⟩ => ok_of e q)
theorem ok_fld {c f : Str} {e : M T} (h : Ok e τ fun x τ1 => ∃ w, oFld c f x = some w ∧ Q w τ1) : Ok (oFldM c f e) τ Q := ok_bind (ok_imp h fun x τ1 ⟨w, e, q⟩ => ok_of e q)
theorem ok_chain {f g : T → T → Option T} {ea eb ec : M T} (h : Ok ea τ fun x τ1 => Ok eb τ1 fun y τ2 => ∃ b, f x y = some (.bl b) ∧ if b = true then Ok ec τ2 fun u τ3 => ∃ w, g y u = some w ∧ Q w τ3 else Q (.bl false) τ2) : Ok (chainM f g ea eb ec) τ Q :=
  ok_bind (ok_imp h fun x τ1 h => ok_bind (ok_imp h fun y τ2 ⟨b, e, h⟩ => ok_bind (ok_of e (ok_bind (by
    cases b with
    | true => exact ok_pure (ok_bind (ok_imp h fun u τ3 ⟨w, e, q⟩ => ok_of e q))
    | false => exact ok_pure (ok_pure h))))))
theorem ok_andM {ea eb : M T} (h : Ok ea τ fun x τ1 => ∃ b, x = .bl b ∧ if b = true then Ok eb τ1 Q else Q (.bl false) τ1) : Ok (andM ea eb) τ Q := ok_bind (ok_imp h fun x τ1 ⟨b, e, h⟩ => by
  subst e
  refine ok_bind (ok_pure ?_)
  cases b with
  | true => exact h
  | false => exact ok_pure h)
theorem ok_orM {ea eb : M T} (h : Ok ea τ fun x τ1 => ∃ b, x = .bl b ∧ if b = true then Q (.bl true) τ1 else Ok eb τ1 Q) : Ok (orM ea eb) τ Q := ok_bind (ok_imp h fun x τ1 ⟨b, e, h⟩ => by
  subst e
  refine ok_bind (ok_pure ?_)
  cases b with
  | true => exact ok_pure h
  | false => exact h)
theorem ok_notM {ea : M T} (h : Ok ea τ fun x τ1 => ∃ b, x = .bl b ∧ Q (.bl (!b)) τ1) : Ok (notM ea) τ Q := ok_bind (ok_imp h fun x τ1 ⟨b, e, h⟩ => by subst e; exact ok_bind (ok_pure (ok_pure h)))
theorem ok_callA {f : List T → RE T} {a : M (List T)} (h : Ok a τ fun ts τ1 => Fok f ts fun w _ => Q w τ1) : Ok (callA f a) τ Q := ok_bind (ok_imp h fun ts τ1 ⟨w, ps, e, q⟩ => ⟨w, τ1, by unfold call0; rw [e], q⟩)
theorem ok_callL {f : List T → RE T} {i j : Nat} {a : M (List T)} (h : Ok a τ fun ts τ1 => ∃ t, τ1[i]? = some (some t) ∧ Fok f (ts.set j t) fun w ps => ∃ t', ps[j]? = some (some t') ∧ Q w (τ1.set i (some t'))) : Ok (callL f i j a) τ Q :=
  ok_bind (ok_imp h fun ts τ1 ⟨t, e1, w, ps, e2, t', e3, q⟩ => ⟨w, τ1.set i (some t'), by unfold call1; rw [e1]; dsimp only; rw [e2]; dsimp only; rw [e3], q⟩)
theorem ok_makeA {c : Str} {f : List T → RE T} {a : M (List T)} (h : Ok a τ fun ts τ1 => Fok f (.ins c [] :: ts) fun w ps => w = .non ∧ ∃ t', ps[0]? = some (some t') ∧ Q t' τ1) : Ok (makeA c f a) τ Q :=
  ok_bind (ok_imp h fun ts τ1 ⟨w, ps, e2, e, t', e3, q⟩ => ⟨t', τ1, by subst e; unfold makeM; rw [e2]; dsimp only; rw [e3], q⟩)
theorem ok_selfA {c m : Str} {ea : M T} {e : M (List T)} (h : Ok ea τ fun x τ1 => ∃ y, oIns c m x = some y ∧ Ok e τ1 fun xs τ2 => QL (y :: xs) τ2) : Ok (selfA c m ea e) τ QL := ok_bind (ok_bind (ok_imp h fun x τ1 ⟨y, e, h⟩ => ok_of e (ok_bind (ok_imp h fun xs τ2 h => ok_pure h))))
theorem ok_propA {c : Str} {ea : M T} (h : Ok ea τ fun x τ1 => ∃ y, oCls c x = some y ∧ QL [y] τ1) : Ok (propA c ea) τ QL := ok_bind (ok_bind (ok_imp h fun x τ1 ⟨y, e, h⟩ => ok_of e (ok_bind (ok_pure (ok_pure h)))))
theorem ok_cutN {e : M T} {el eh : M (Option Int)} (h : Ok e τ fun x τ1 => Ok el τ1 fun lo τ2 => Ok eh τ2 fun hi τ3 => ∃ w, oCut x lo hi = some w ∧ Q w τ3) : Ok (cutN e el eh) τ Q := ok_bind (ok_imp h fun x τ1 h => ok_bind (ok_imp h fun lo τ2 h => ok_bind (ok_imp h fun hi τ3 ⟨w, e, q⟩ => ok_of e q)))
theorem ok_cutI {e : M T} {el eh : M (Option Int)} (h : Ok e τ fun x τ1 => Ok el τ1 fun lo τ2 => Ok eh τ2 fun hi τ3 => ∃ w, oCutL x lo hi = some w ∧ imms w = true ∧ Q (.lst w) τ3) : Ok (cutI e el eh) τ Q := ok_bind (ok_imp h fun x τ1 h => ok_bind (ok_imp h fun lo τ2 h => ok_bind (ok_imp h fun hi τ3 ⟨w, e, hi, q⟩ => ok_newC e hi q)))
theorem ok_noPart {Q : Option Int → Tau → Prop} (h : Q none τ) : Ok noPart τ Q := ok_pure h
theorem ok_part {e : M T} {Q : Option Int → Tau → Prop} (h : Ok e τ fun x τ1 => ∃ i, x = .int i ∧ Q (some i) τ1) : Ok (part e) τ Q := ok_bind (ok_imp h fun x τ1 ⟨i, e, h⟩ => by subst e; exact ok_bind (ok_pure (ok_pure h)))
theorem ok_get1D {ed ek : M T} (h : Ok ed τ fun x τ1 => ∃ kvs, x = .dct kvs ∧ Ok ek τ1 fun k τ2 => askOk kvs k = true ∧ Q ((look kvs k).getD .non) τ2) : Ok (get1D ed ek) τ Q := ok_bind (ok_imp h fun x τ1 ⟨kvs, e, h⟩ => by
  subst e
  refine ok_bind (ok_pure (ok_bind (ok_imp h fun k τ2 ⟨ha, q⟩ => ok_of ?_ q)))
  show (if askOk kvs k = true then _ else _) = _
  rw [if_pos ha])
theorem ok_ifE {c : M Bool} {ea eb : M T} (h : Ok c τ fun b τ1 => if b = true then Ok ea τ1 Q else Ok eb τ1 Q) : Ok (ifE c ea eb) τ Q := ok_bind (ok_imp h fun b τ1 h => by cases b <;> exact h)
theorem ok_tst {e : M T} (h : Ok e τ fun x τ1 => ∃ b, x = .bl b ∧ QB b τ1) : Ok (tst e) τ QB := ok_bind (ok_imp h fun x τ1 ⟨b, e, h⟩ => by subst e; exact ok_pure h)
theorem ok_andT {e f : M Bool} (h : Ok e τ fun b τ1 => if b = true then Ok f τ1 QB else QB false τ1) : Ok (andT e f) τ QB := ok_bind (ok_imp h fun b τ1 h => by
  cases b with
  | true => exact h
  | false => exact ok_pure h)
theorem ok_orT {e f : M Bool} (h : Ok e τ fun b τ1 => if b = true then QB true τ1 else Ok f τ1 QB) : Ok (orT e f) τ QB := ok_bind (ok_imp h fun b τ1 h => by
  cases b with
  | true => exact ok_pure h
  | false => exact h)
theorem ok_notT {e : M Bool} (h : Ok e τ fun b τ1 => QB (!b) τ1) : Ok (notT e) τ QB := ok_bind (ok_imp h fun b τ1 h => ok_pure h)
theorem ok_truT {e : M T} (h : Ok e τ fun x τ1 => ∃ b, oTru x = some b ∧ QB b τ1) : Ok (truT e) τ QB := ok_bind (ok_imp h fun x τ1 ⟨w, e, q⟩ => ok_of e q)
theorem ok_nx (h : QC .nx τ) : Ok sNx τ QC := ok_pure h
theorem ok_seq {a b : M Ctl} (h : Ok a τ fun c τ1 => match c with
    | .nx => Ok b τ1 QC
    | c => QC c τ1) : Ok (sSeq a b) τ QC := ok_bind (ok_imp h fun c τ1 h => by
  cases c with
  | nx => exact h
  | bk => exact ok_pure h
  | ct => exact ok_pure h
  | rt w => exact ok_pure h)
theorem ok_ret {e : M T} (h : Ok e τ fun w τ1 => QC (.rt w) τ1) : Ok (sRet e) τ QC := ok_bind (ok_imp h fun w τ1 h => ok_pure h)
theorem ok_drop {e : M T} (h : Ok e τ fun _ τ1 => QC .nx τ1) : Ok (sDrop e) τ QC := ok_bind (ok_imp h fun w τ1 h => ok_pure h)
theorem ok_set {i : Nat} {e : M T} (h : Ok e τ fun w τ1 => QC .nx (τ1.set i (some w))) : Ok (sSet i e) τ QC := ok_bind (ok_imp h fun w τ1 h => ok_bind (ok_put (ok_pure h)))
theorem ok_if {c : M Bool} {a b : M Ctl} (h : Ok c τ fun x τ1 => if x = true then Ok a τ1 QC else Ok b τ1 QC) : Ok (sIf c a b) τ QC := ok_bind (ok_imp h fun b τ1 h => by cases b <;> exact h)
theorem ok_sSetL {i : Nat} {e ek : M T} (h : Ok e τ fun w τ1 => (∃ x, τ1[i]? = some (some x)) ∧ Ok ek τ1 fun k τ2 => ∃ xs ys, τ2[i]? = some (some (.lst xs)) ∧ setL xs k w = some ys ∧ QC .nx (τ2.set i (some (.lst ys)))) : Ok (sSetL i e ek) τ QC :=
  ok_bind (ok_imp h fun w τ1 ⟨⟨x, ex⟩, h⟩ => ok_bind (ok_get ex (ok_bind (ok_imp h fun k τ2 ⟨xs, ys, e1, e2, q⟩ => ok_bind (ok_bind (ok_get e1 (ok_bind (ok_pure (ok_bind (ok_of e2 (ok_put (ok_pure q))))))))))))
theorem ok_sSetI {i : Nat} {e ek : M T} (h : Ok e τ fun w τ1 => (∃ x, τ1[i]? = some (some x)) ∧ Ok ek τ1 fun k τ2 => ∃ x y, τ2[i]? = some (some x) ∧ setC x k w = some y ∧ QC .nx (τ2.set i (some y))) : Ok (sSetI i e ek) τ QC :=
  ok_bind (ok_imp h fun w τ1 ⟨⟨x, ex⟩, h⟩ => ok_bind (ok_get ex (ok_bind (ok_imp h fun k τ2 ⟨x, y, e1, e2, q⟩ => ok_bind (ok_bind (ok_get e1 (ok_bind (ok_of e2 (ok_put (ok_pure q))))))))))
theorem ok_sSet2 {i : Nat} {e ej ek : M T} (h : Ok e τ fun w τ1 => (∃ x, τ1[i]? = some (some x)) ∧ Ok ej τ1 fun j τ2 => ∃ x y, τ2[i]? = some (some x) ∧ at2 x j = some y ∧ Ok ek τ2 fun k τ3 => ∃ z x', setIn y k w = some z ∧ put2 x j z = some x' ∧ QC .nx (τ3.set i (some x'))) : Ok (sSet2 i e ej ek) τ QC :=
  ok_bind (ok_imp h fun w τ1 ⟨⟨x, ex⟩, h⟩ => ok_bind (ok_get ex (ok_bind (ok_imp h fun j τ2 ⟨x, y, e1, e2, h⟩ => ok_bind (ok_get e1 (ok_bind (ok_of e2 (ok_bind (ok_imp h fun k τ3 ⟨z, x', e3, e4, q⟩ => ok_bind (ok_of e3 (ok_bind (ok_of e4 (ok_bind (ok_put (ok_pure q)))))))))))))))
theorem ok_appS {i : Nat} {e : M T} (h : (∃ xs, τ[i]? = some (some (.lst xs))) ∧ Ok e τ fun w τ1 => ∃ xs, τ1[i]? = some (some (.lst xs)) ∧ xs.length < szL ∧ Q .non (τ1.set i (some (.lst (xs ++ [w]))))) : Ok (appS i e) τ Q := by
  obtain ⟨⟨xs, e0⟩, h⟩ := h
  refine ok_bind (ok_get e0 (ok_bind (ok_pure (ok_bind (ok_imp h fun w τ1 ⟨xs, e1, hl, q⟩ => ok_bind (ok_get e1 (ok_bind (ok_pure (ok_bind ?_)))))))))
  rw [if_pos hl]
  exact ok_pure (ok_bind (ok_put (ok_pure q)))
theorem ok_for {es : M (List T)} {bg : T → M Unit} {b : M Ctl} (h : Ok es τ fun xs τ1 => Ok (sFor bg b xs) τ1 QC) : Ok (forS es bg b) τ QC := ok_bind h
theorem ok_elems {e : M T} (h : Ok e τ fun x τ1 => ∃ xs, oElems x = some xs ∧ QL xs τ1) : Ok (elems e) τ QL := ok_bind (ok_imp h fun x τ1 ⟨w, e, q⟩ => ok_of e q)
theorem ok_rng1 {a : M (List T)} (h : Ok a τ fun x τ1 => ∃ xs, fRange1 x = some xs ∧ QL xs τ1) : Ok (rng1 a) τ QL := ok_bind (ok_imp h fun x τ1 ⟨w, e, q⟩ => ok_of e q)
theorem ok_rng2 {a : M (List T)} (h : Ok a τ fun x τ1 => ∃ xs, fRange2 x = some xs ∧ QL xs τ1) : Ok (rng2 a) τ QL := ok_bind (ok_imp h fun x τ1 ⟨w, e, q⟩ => ok_of e q)
theorem ok_enum {e : M T} (h : Ok e τ fun x τ1 => ∃ xs, fEnum [x] = some xs ∧ QL xs τ1) : Ok (enumM e) τ QL := ok_bind (ok_imp h fun x τ1 ⟨w, e, q⟩ => ok_of e q)
/-- a walk: Inv of what is left -/
theorem ok_sFor {bg : T → M Unit} {b : M Ctl} (Inv : List T → Tau → Prop) (step : ∀ x r τ, Inv (x :: r) τ → Ok (bg x) τ fun _ τ1 => Ok b τ1 fun c τ2 => match c with
    | .nx => Inv r τ2
    | .ct => Inv r τ2
    | .bk => QC .nx τ2
    | .rt w => QC (.rt w) τ2) (fin : ∀ τ, Inv [] τ → QC .nx τ) : ∀ (xs : List T) (τ : Tau), Inv xs τ → Ok (sFor bg b xs) τ QC
  | [], τ, h => ok_pure (fin τ h)
  | x :: r, τ, h => ok_bind (ok_imp (step x r τ h) fun _ τ1 h1 => ok_bind (ok_imp h1 fun c τ2 h2 => by
    cases c with
    | nx => exact ok_sFor Inv step fin r τ2 h2
    | ct => exact ok_sFor Inv step fin r τ2 h2
    | bk => exact ok_pure h2
    | rt w => exact ok_pure h2))
theorem fok_of {s : M Ctl} {np N : Nat} {ts : List T} (h : Ok s (ts.map some ++ List.replicate (N - np) none) fun c τ => match c with
    | .nx => Q .non (pad np τ)
    | .rt w => Q w (pad np τ)
    | _ => False) : Fok (noX (runF s np N)) ts Q := by
  obtain ⟨c, τ', e, q⟩ := h
  cases c with
  | nx => exact ⟨.non, pad np τ', by unfold noX runF; rw [e], q⟩
  | rt w => exact ⟨w, pad np τ', by unfold noX runF; rw [e], q⟩
  | bk => exact q.elim
  | ct => exact q.elim
end
end TL
end
section
set_option Elab.async false
set_option linter.all false
set_option autoImplicit false
namespace TL
open PySem
theorem fok_at {Q : T → Tau → Prop} {s : M Ctl} {np N : Nat} {ts : List T} {τ0 : Tau} (e : ts.map some ++ List.replicate (N - np) none = τ0) (h : Ok s τ0 fun c τ => match c with
    | .nx => Q .non (pad np τ)
    | .rt w => Q w (pad np τ)
    | _ => False) : Fok (noX (runF s np N)) ts Q := fok_of (by rw [e]; exact h)
theorem w1 {α : Type} {P : α → Prop} {o : Option α} {a : α} (e : o = some a) (h : P a) : ∃ w, o = some w ∧ P w := ⟨a, e, h⟩
theorem ok_noE {α : Type} {m : M α} {τ : Tau} {Q : α → Tau → Prop} (h : Ok m τ Q) : Ok (noE m) τ Q := by
  obtain ⟨a, τ', e, q⟩ := h
  exact ⟨a, τ', by unfold noE; rw [e], q⟩
theorem ok_wipe {vs : List Nat} {τ : Tau} {Q : Unit → Tau → Prop} (h : Q () (wipeT τ vs)) : Ok (wipeM vs) τ Q := ⟨(), _, rfl, h⟩
section
variable {vs : List Nat} {bg : T → M Unit} {et : M Bool} {ee ek : M T} {QL : List T → Tau → Prop} {QD : List (T × T) → Tau → Prop} {Q : T → Tau → Prop}
theorem ok_lcM (Inv : List T → List T → Tau → Prop) (step : ∀ x r acc τ, Inv (x :: r) acc τ → Ok (bg x) (wipeT τ vs) fun _ τ1 => Ok et τ1 fun b τ2 => if b = true then Ok ee τ2 fun w τ3 => acc.length < szL ∧ Inv r (acc ++ [w]) (wipeT τ3 vs) else Inv r acc (wipeT τ2 vs))
    (fin : ∀ acc τ, Inv [] acc τ → QL acc τ) : ∀ (xs acc : List T) (τ : Tau), Inv xs acc τ → Ok (lcM vs bg et ee xs acc) τ QL
  | [], acc, τ, h => ok_pure (fin acc τ h)
  | x :: r, acc, τ, h => ok_bind (ok_wipe (ok_bind (ok_imp (step x r acc τ h) fun _ τ1 h1 => ok_bind (ok_imp h1 fun b τ2 h2 => by
    cases b with
    | false => exact ok_bind (ok_wipe (ok_lcM Inv step fin r acc _ h2))
    | true =>
      refine ok_bind (ok_imp (show Ok ee τ2 _ from h2) fun w τ3 ⟨hl, h3⟩ => ok_bind ?_)
      rw [if_pos hl]
      exact ok_pure (ok_bind (ok_wipe (ok_lcM Inv step fin r _ _ h3)))))))
theorem ok_sLc {τ : Tau} {ei : M (List T)} (h : Ok ei τ fun xs τ1 => Ok (lcM vs bg et ee xs []) τ1 fun ws τ2 => Q (.lst ws) τ2) : Ok (sLc vs ei bg et ee) τ Q := ok_bind (ok_imp h fun xs τ1 h => ok_bind (ok_imp h fun ws τ2 h => ok_pure h))
theorem ok_lcO {i : Nat} (xs : List T) (Inv : Nat → List T → Tau → Prop) (at_ : ∀ k acc τ, Inv k acc τ → τ[i]? = some (some (.lst xs))) (step : ∀ k x acc τ, xs[k]? = some x → Inv k acc τ → imm x = true ∧ Ok (bg x) (wipeT τ vs) fun _ τ1 => Ok et τ1 fun b τ2 => if b = true then Ok ee τ2 fun w τ3 => acc.length < szL ∧ Inv (k + 1) (acc ++ [w]) (wipeT τ3 vs) else Inv (k + 1) acc (wipeT τ2 vs))
    (fin : ∀ acc τ, Inv xs.length acc τ → QL acc τ) : ∀ (n k : Nat) (acc : List T) (τ : Tau), k ≤ xs.length → xs.length < n + k → Inv k acc τ → Ok (lcO vs i bg et ee n k acc) τ QL
  | 0, k, acc, τ, h1, h2, h => by omega
  | n + 1, k, acc, τ, h1, h2, h => by
    refine ok_bind (ok_get (at_ k acc τ h) (ok_bind (ok_pure ?_)))
    cases hk : xs[k]? with
    | none =>
      have : xs.length ≤ k := List.getElem?_eq_none_iff.mp hk
      have e : k = xs.length := by omega
      subst e
      exact ok_pure (fin acc τ h)
    | some x =>
      obtain ⟨hl, _⟩ := List.getElem?_eq_some_iff.mp hk
      obtain ⟨hi, hs⟩ := step k x acc τ hk h
      refine ok_bind ?_
      unfold immC
      rw [if_pos hi]
      refine ok_pure (ok_bind (ok_wipe (ok_bind (ok_imp hs fun _ τ1 h1 => ok_bind (ok_imp h1 fun b τ2 h2 => ?_)))))
      cases b with
      | false => exact ok_bind (ok_wipe (ok_lcO xs Inv at_ step fin n (k + 1) acc _ (by omega) (by omega) h2))
      | true =>
        refine ok_bind (ok_imp (show Ok ee τ2 _ from h2) fun w τ3 ⟨hl, h3⟩ => ok_bind ?_)
        rw [if_pos hl]
        exact ok_pure (ok_bind (ok_wipe (ok_lcO xs Inv at_ step fin n (k + 1) _ _ (by omega) (by omega) h3)))
theorem ok_sLcO {τ : Tau} {i : Nat} {xs : List T} (e : τ[i]? = some (some (.lst xs))) (h : Ok (lcO vs i bg et ee (xs.length + 1) 0 []) τ fun ws τ2 => Q (.lst ws) τ2) : Ok (sLcO vs i bg et ee) τ Q := ok_bind (ok_get e (ok_bind (ok_pure (ok_bind (ok_imp h fun ws τ2 h => ok_pure h)))))
theorem ok_sDc {τ : Tau} {ei : M (List T)} (h : Ok ei τ fun xs τ1 => Ok (dcM vs bg et ek ee xs []) τ1 fun ws τ2 => Q (.dct ws) τ2) : Ok (sDc vs ei bg et ek ee) τ Q := ok_bind (ok_imp h fun xs τ1 h => ok_bind (ok_imp h fun ws τ2 h => ok_pure h))
end
theorem ok_sFldM {c f : Str} {i : Nat} {e : M T} {τ : Tau} {QC : Ctl → Tau → Prop} (h : Ok e τ fun w τ1 => ∃ x y, τ1[i]? = some (some x) ∧ setFT c f w x = some y ∧ QC .nx (τ1.set i (some y))) : Ok (sFldM c i f e) τ QC :=
  ok_bind (ok_imp h fun w τ1 ⟨x, y, e1, e2, q⟩ => ok_bind (ok_get e1 (ok_bind (ok_of e2 (ok_bind (ok_put (ok_pure q)))))))
theorem ok_starM {e : M T} {f : M (List T)} {τ : Tau} {QL : List T → Tau → Prop} (h : Ok e τ fun x τ1 => ∃ xs, oSeq x = some xs ∧ imms xs = true ∧ Ok f τ1 fun ys τ2 => QL (xs ++ ys) τ2) : Ok (starM e f) τ QL :=
  ok_bind (ok_imp h fun x τ1 ⟨xs, e1, hi, h⟩ => ok_bind (ok_of e1 (ok_bind (by unfold immsC; rw [if_pos hi]; exact ok_pure (ok_bind (ok_imp h fun ys τ2 q => ok_pure q))))))
theorem fRange1_nat {n : Nat} (h : n < 4611686018427387904) : fRange1 [.int (n : Int)] = some (intsL 0 n) := by
  unfold fRange1
  dsimp only
  rw [if_pos ⟨by omega, by omega⟩, Int.toNat_natCast]
theorem oMod_pos {i j : Int} (h : 0 < j) : oMod (.int i) (.int j) = some (.int (i % j)) := by
  show (if 0 < j then some (T.int (i % j)) else none) = _
  rw [if_pos h]
theorem oDiv_posW {i j : Int} (h : 0 < j) (h' : j < 18446744073709551616) : oDiv (.int i) (.int j) = some (.int (i / j)) := by
  show (if 0 < j ∧ j < 18446744073709551616 then some (T.int (i / j)) else none) = _
  rw [if_pos ⟨h, h'⟩]
theorem oDiv_pos {i j : Int} (h : 0 < j) (h' : j < 1073741824) : oDiv (.int i) (.int j) = some (.int (i / j)) := oDiv_posW h (by omega)
theorem oMul_r {i j : Int} (h : -(2 ^ 64) < j ∧ j < 2 ^ 64) : oMul (.int i) (.int j) = some (.int (i * j)) := by
  show (if (-(2 ^ 64) < i ∧ i < 2 ^ 64) ∨ (-(2 ^ 64) < j ∧ j < 2 ^ 64) then some (T.int (i * j)) else none) = _
  rw [if_pos (.inr h)]
theorem oMul_l {i j : Int} (h : -(2 ^ 64) < i ∧ i < 2 ^ 64) : oMul (.int i) (.int j) = some (.int (i * j)) := by
  show (if (-(2 ^ 64) < i ∧ i < 2 ^ 64) ∨ (-(2 ^ 64) < j ∧ j < 2 ^ 64) then some (T.int (i * j)) else none) = _
  rw [if_pos (.inl h)]
theorem pyIx_nat {n k : Nat} (h : k < n) : pyIx n (k : Int) = some k := by
  unfold pyIx
  rw [if_pos (by omega), if_pos (by omega)]
  rfl
theorem pyAt_nat {α : Type} {xs : List α} {k : Nat} {x : α} (h : xs[k]? = some x) : pyAt xs (k : Int) = some x := by
  obtain ⟨hl, _⟩ := List.getElem?_eq_some_iff.mp h
  unfold pyAt
  rw [pyIx_nat hl]; exact h
end TL
end
section
set_option Elab.async false
set_option linter.all false
set_option autoImplicit false
namespace TL.Pl
open PySem TL
end TL.Pl
end
section
set_option Elab.async false
set_option linter.all false
set_option autoImplicit false
namespace TL.Pl
open PySem TL
end TL.Pl
end
section
set_option Elab.async false
set_option linter.all false
set_option autoImplicit false
namespace TL
open PySem
section
variable {τ : Tau} {Q : T → Tau → Prop}
theorem ok_clearM {i : Nat} (h : ∃ x y, τ[i]? = some (some x) ∧ oClear x = some y ∧ Q .non (τ.set i (some y))) : Ok (clearM i) τ Q := by
  obtain ⟨x, y, e1, e2, q⟩ := h
  exact ok_bind (ok_get e1 (ok_bind (ok_of e2 (ok_bind (ok_put (ok_pure q))))))
theorem ok_sApp2 {i : Nat} {ej e : M T} (h : (∃ x, τ[i]? = some (some x)) ∧ Ok ej τ fun j τ1 => ∃ x ys, τ1[i]? = some (some x) ∧ at2 x j = some (.lst ys) ∧ Ok e τ1 fun w τ2 => ∃ x', ys.length < szL ∧ put2 x j (.lst (ys ++ [w])) = some x' ∧ Q .non (τ2.set i (some x'))) : Ok (sApp2 i ej e) τ Q := by
  obtain ⟨⟨x0, e0⟩, h⟩ := h
  refine ok_bind (ok_get e0 (ok_bind (ok_imp h fun j τ1 ⟨x, ys, e1, e2, h⟩ => ok_bind (ok_get e1 (ok_bind (ok_of e2 (ok_bind (ok_pure (ok_bind (ok_imp h fun w τ2 ⟨x', hl, e3, q⟩ => ok_bind (ok_of (a := .lst (ys ++ [w])) ?_ (ok_bind (ok_of e3 (ok_bind (ok_put (ok_pure q))))))))))))))))
  show (if ys.length < szL then some (T.lst (ys ++ [w])) else none) = _
  rw [if_pos hl]
theorem ok_sClear2 {i : Nat} {ej : M T} (h : (∃ x, τ[i]? = some (some x)) ∧ Ok ej τ fun j τ1 => ∃ x y z x', τ1[i]? = some (some x) ∧ at2 x j = some y ∧ oClear y = some z ∧ put2 x j z = some x' ∧ Q .non (τ1.set i (some x'))) : Ok (sClear2 i ej) τ Q := by
  obtain ⟨⟨x0, e0⟩, h⟩ := h
  exact ok_bind (ok_get e0 (ok_bind (ok_imp h fun j τ1 ⟨x, y, z, x', e1, e2, e3, e4, q⟩ => ok_bind (ok_get e1 (ok_bind (ok_of e2 (ok_bind (ok_of e3 (ok_bind (ok_of e4 (ok_bind (ok_put (ok_pure q)))))))))))))
end
end TL
end
section
set_option Elab.async false
set_option linter.all false
set_option autoImplicit false
namespace TL
open PySem
section
variable {τ : Tau} {Q : T → Tau → Prop} {QC : Ctl → Tau → Prop} {QL : List T → Tau → Prop} {QD : List (T × T) → Tau → Prop}
theorem ok_immsC {ws : List T} {Q : List T → Tau → Prop} (hi : imms ws = true) (h : Q ws τ) : Ok (immsC ws) τ Q := by unfold immsC; rw [if_pos hi]; exact ok_pure h
theorem ok_tupA {a : M (List T)} (h : Ok a τ fun ts τ1 => ∃ ws, fTup ts = some ws ∧ imms ws = true ∧ Q (.tup ws) τ1) : Ok (tupA a) τ Q := ok_bind (ok_imp h fun ts τ1 ⟨ws, e, hi, q⟩ => ok_bind (ok_of e (ok_bind (ok_immsC hi (ok_pure q)))))
theorem ok_catTA {a : M (List T)} (h : Ok a τ fun ts τ1 => ∃ ws, fCatT ts = some ws ∧ imms ws = true ∧ Q (.tup ws) τ1) : Ok (catTA a) τ Q := ok_bind (ok_imp h fun ts τ1 ⟨ws, e, hi, q⟩ => ok_bind (ok_of e (ok_bind (ok_immsC hi (ok_pure q)))))
theorem ok_revI {e : M T} (h : Ok e τ fun x τ1 => ∃ ws, oRev x = some ws ∧ imms ws = true ∧ Q (.lst ws) τ1) : Ok (revI e) τ Q := ok_bind (ok_imp h fun x τ1 ⟨ws, e, hi, q⟩ => ok_newC e hi q)
theorem ok_inO {c : Str} {neg : Bool} {m : List T → RE T} {ea eb : M T} (h : Ok ea τ fun x τ1 => Ok eb τ1 fun y τ2 => ∃ y', oCls c y = some y' ∧ Fok m [y', x] fun w _ => ∃ b, w = .bl b ∧ Q (.bl (if neg = true then !b else b)) τ2) : Ok (inO c neg m ea eb) τ Q :=
  ok_bind (ok_bind (ok_bind (ok_imp h fun x τ1 h => ok_bind (ok_imp h fun y τ2 ⟨y', e, w, ps, e2, b, e3, q⟩ => ok_bind (ok_of e (ok_pure ⟨w, τ2, by unfold call0; rw [e2], by subst e3; exact ok_bind (ok_pure (ok_pure q))⟩))))))
theorem ok_ixO {c : Str} {m : List T → RE T} {ea eb : M T} (h : Ok ea τ fun x τ1 => Ok eb τ1 fun y τ2 => ∃ x', oCls c x = some x' ∧ Fok m [x', y] fun w _ => Q w τ2) : Ok (ixO c m ea eb) τ Q :=
  ok_bind (ok_bind (ok_imp h fun x τ1 h => ok_bind (ok_imp h fun y τ2 ⟨y', e, w, ps, e2, q⟩ => ok_bind (ok_of e (ok_pure ⟨w, τ2, by unfold call0; rw [e2], q⟩)))))
theorem ok_repM {ea eb : M T} (h : Ok ea τ fun x τ1 => Ok eb τ1 fun y τ2 => ∃ xs k, x = .lst xs ∧ y = .int k ∧ (0 ≤ k ∧ k ≤ 1000000 ∧ xs.length * k.toNat ≤ szL) ∧ Q (.lst (List.replicate k.toNat xs).flatten) τ2) : Ok (repM ea eb) τ Q :=
  ok_bind (ok_imp h fun x τ1 h => ok_bind (ok_imp h fun y τ2 ⟨xs, k, e1, e2, hc, q⟩ => by subst e1 e2; exact ok_bind (ok_pure (ok_bind (ok_pure (by rw [if_pos hc]; exact ok_pure q))))))
theorem ok_unp {bg : T → M Unit} {e : M T} (h : Ok e τ fun w τ1 => Ok (bg w) τ1 fun _ τ2 => QC .nx τ2) : Ok (unpM bg e) τ QC := ok_bind (ok_imp h fun w τ1 h => ok_bind (ok_imp h fun _ τ2 q => ok_pure q))
theorem ok_putT2 {i j : Nat} {x y : T} {Q : Unit → Tau → Prop} (h : Q () ((τ.set i (some x)).set j (some y))) : Ok (putT [i, j] (.tup [x, y])) τ Q := ok_bind (ok_put (ok_bind (ok_put (ok_pure h))))
theorem ok_putT3 {i j k : Nat} {x y z : T} {Q : Unit → Tau → Prop} (h : Q () (((τ.set i (some x)).set j (some y)).set k (some z))) : Ok (putT [i, j, k] (.tup [x, y, z])) τ Q := ok_bind (ok_put (ok_bind (ok_put (ok_bind (ok_put (ok_pure h))))))
theorem ok_starFM {e : M T} {f : M (List T)} (h : Ok e τ fun x τ1 => ∃ xs, oSeq x = some xs ∧ Ok f τ1 fun ys τ2 => QL (xs ++ ys) τ2) : Ok (starFM e f) τ QL := ok_bind (ok_imp h fun x τ1 ⟨xs, e1, h⟩ => ok_bind (ok_of e1 (ok_bind (ok_imp h fun ys τ2 q => ok_pure q))))
theorem wb {c : Bool} {P : Bool → Prop} (h : P c) : ∃ b, T.bl c = T.bl b ∧ P b := ⟨c, rfl, h⟩
theorem iT {c : Bool} {A B : Prop} (hc : c = true) (h : A) : if c = true then A else B := by rw [if_pos hc]; exact h
theorem iF {c : Bool} {A B : Prop} (hc : c = false) (h : B) : if c = true then A else B := by rw [if_neg (by rw [hc]; exact Bool.false_ne_true)]; exact h
theorem iB {c : Bool} {A B : Prop} (ht : c = true → A) (hf : c = false → B) : if c = true then A else B := by
  cases c with
  | true => exact ht rfl
  | false => exact hf rfl
theorem ok_walk {α : Type} {enc : α → T} {bg : T → M Unit} {b : M Ctl} (Inv : List α → Tau → Prop) {xs : List α} (h0 : Inv [] τ)
    (step : ∀ done x r τ, done ++ x :: r = xs → Inv done τ → Ok (bg (enc x)) τ fun _ τ1 => Ok b τ1 fun c τ2 => match c with
      | .nx => Inv (done ++ [x]) τ2
      | .ct => Inv (done ++ [x]) τ2
      | .bk => QC .nx τ2
      | .rt w => QC (.rt w) τ2) (fin : ∀ τ, Inv xs τ → QC .nx τ) : Ok (sFor bg b (xs.map enc)) τ QC := by
  have go : ∀ (r done : List α) (τ : Tau), done ++ r = xs → Inv done τ → Ok (sFor bg b (r.map enc)) τ QC := by
    intro r
    induction r with
    | nil => intro done τ e h; rw [List.append_nil] at e; subst e; exact ok_pure (fin τ h)
    | cons x r ih =>
      intro done τ e h
      refine ok_bind (ok_imp (step done x r τ e h) fun _ τ1 h1 => ok_bind (ok_imp h1 fun c τ2 h2 => ?_))
      have e' : (done ++ [x]) ++ r = xs := by rw [← e]; simp
      cases c with
      | nx => exact ih _ τ2 e' h2
      | ct => exact ih _ τ2 e' h2
      | bk => exact ok_pure h2
      | rt w => exact ok_pure h2
  exact go xs [] τ rfl h0
variable {vs : List Nat} {bg : T → M Unit} {et : M Bool} {ee ek : M T}
theorem ok_lcW {α : Type} {enc : α → T} (Inv : List α → List T → Tau → Prop) {xs : List α} (h0 : Inv [] [] τ)
    (step : ∀ done x r acc τ, done ++ x :: r = xs → Inv done acc τ → Ok (bg (enc x)) (wipeT τ vs) fun _ τ1 => Ok et τ1 fun b τ2 => if b = true then Ok ee τ2 fun w τ3 => acc.length < szL ∧ Inv (done ++ [x]) (acc ++ [w]) (wipeT τ3 vs) else Inv (done ++ [x]) acc (wipeT τ2 vs))
    (fin : ∀ acc τ, Inv xs acc τ → QL acc τ) : Ok (lcM vs bg et ee (xs.map enc) []) τ QL := by
  refine ok_lcM (fun rest acc τ => ∃ done r, done ++ r = xs ∧ rest = r.map enc ∧ Inv done acc τ) ?_ ?_ _ _ _ ⟨[], xs, rfl, rfl, h0⟩
  · rintro x rest acc τ ⟨done, r, e, e1, h⟩
    cases r with
    | nil => cases e1
    | cons y r =>
      cases e1
      have e' : (done ++ [y]) ++ r = xs := by rw [← e]; simp
      refine ok_imp (step done y r acc τ e h) fun _ τ1 h1 => ok_imp h1 fun b τ2 h2 => ?_
      cases b with
      | true => exact ok_imp (show Ok ee τ2 _ from h2) fun w τ3 ⟨hl, h3⟩ => ⟨hl, _, r, e', rfl, h3⟩
      | false => exact ⟨_, r, e', rfl, h2⟩
  · rintro acc τ ⟨done, r, e, e1, h⟩
    cases r with
    | nil => rw [List.append_nil] at e; subst e; exact fin acc τ h
    | cons y r => cases e1
/-- a comprehension that changes nothing -/
theorem ok_lcP {α : Type} {enc : α → T} {xs : List α} (p : α → Bool) (f : α → T) (hw : wipeT τ vs = τ) (hl : xs.length < szL)
    (step : ∀ x ∈ xs, Ok (bg (enc x)) τ fun _ τ1 => Ok et τ1 fun b τ2 => b = p x ∧ if b = true then Ok ee τ2 fun w τ3 => w = f x ∧ wipeT τ3 vs = τ else wipeT τ2 vs = τ)
    (fin : QL ((xs.filter p).map f) τ) : Ok (lcM vs bg et ee (xs.map enc) []) τ QL := by
  refine ok_lcW (fun done acc τ' => acc = (done.filter p).map f ∧ τ' = τ) ⟨rfl, rfl⟩ ?_ ?_
  · rintro done x r acc τ' e ⟨rfl, rfl⟩
    rw [hw]
    have hd : done.length < xs.length := by rw [← e]; simp
    have hf : (done.filter p).length ≤ done.length := List.length_filter_le _ _
    refine ok_imp (step x (by rw [← e]; simp)) fun _ τ1 h1 => ok_imp h1 fun b τ2 ⟨hb, h2⟩ => ?_
    subst hb
    cases hp : p x with
    | true =>
      rw [if_pos rfl]
      rw [hp] at h2
      refine ok_imp (show Ok ee τ2 _ from h2) fun w τ3 ⟨hw', h3⟩ => ⟨by rw [List.length_map]; omega, ?_, h3⟩
      rw [List.filter_append, List.map_append, hw']
      simp [hp]
    | false =>
      rw [if_neg Bool.false_ne_true]
      rw [hp] at h2
      refine ⟨?_, h2⟩
      rw [List.filter_append]
      simp [hp]
  · rintro acc τ' ⟨rfl, rfl⟩
    exact fin
end
end TL
end
section
set_option Elab.async false
set_option linter.all false
set_option autoImplicit false
namespace TL
open PySem
section
variable {τ : Tau} {Q : T → Tau → Prop}
theorem ok_strM {f : List T → Option T} {ea eb : M T} (h : Ok ea τ fun x τ1 => ∃ z, x = .str z ∧ Ok eb τ1 fun y τ2 => ∃ w, f [.str z, y] = some w ∧ Q w τ2) : Ok (strM f ea eb) τ Q :=
  ok_bind (ok_imp h fun x τ1 ⟨z, e, h⟩ => by subst e; exact ok_bind (ok_pure (ok_bind (ok_imp h fun y τ2 ⟨w, e, q⟩ => ok_of e q))))
theorem wstr {z : Str} {P : Str → Prop} (h : P z) : ∃ z', T.str z = T.str z' ∧ P z' := ⟨z, rfl, h⟩
end
end TL
end
section
set_option Elab.async false
set_option linter.all false
set_option autoImplicit false
namespace TL
open PySem
section
variable {τ : Tau} {Q : T → Tau → Prop}
theorem ok_isaI {cs : List Str} {ts : List String} {e : M T} (h : Ok e τ fun x τ1 => ∃ w, oIsAI cs x ts = some w ∧ Q w τ1) : Ok (isaI cs ts e) τ Q := ok_bind (ok_imp h fun x τ1 ⟨w, e, q⟩ => ok_of e q)
theorem ok_isaO {cs : List Str} {c : Str} {e : M T} (h : Ok e τ fun x τ1 => ∃ w, oIsO cs c x = some w ∧ Q w τ1) : Ok (isaO cs c e) τ Q := ok_bind (ok_imp h fun x τ1 ⟨w, e, q⟩ => ok_of e q)
theorem iTrue {A B : Prop} {inst : Decidable True} (h : A) : @ite Prop True inst A B := by rw [if_pos trivial]; exact h
theorem iFalse {A B : Prop} {inst : Decidable False} (h : B) : @ite Prop False inst A B := by rw [if_neg id]; exact h
end
end TL
end
section
set_option Elab.async false
set_option linter.all false
set_option autoImplicit false
namespace TL
open PySem
namespace Pl
variable {τ : Tau} {Q : T → Tau → Prop} {QC : Ctl → Tau → Prop}
theorem ok_mvA {i : Nat} {e : M T} (h : Ok e τ fun _ τ1 => ∃ t, τ1[i]? = some (some t) ∧ Q t (τ1.set i none)) : Ok (mvA i e) τ Q := ok_bind (ok_imp h fun w τ1 ⟨t, e, q⟩ => ⟨t, _, by unfold mv; rw [e], q⟩)
theorem ok_only {s : M Ctl} (h : Ok s τ fun c τ1 => match c with
    | .nx => QC .nx τ1
    | _ => False) : Ok (onlyNx s) τ QC := ok_bind (ok_noE (ok_imp h fun c τ1 h => by
  cases c with
  | nx => exact ok_pure h
  | bk => exact h.elim
  | ct => exact h.elim
  | rt w => exact h.elim))
theorem ok_must {s : M Ctl} (h : Ok s τ fun c τ1 => match c with
    | .nx => False
    | c => QC c τ1) : Ok (sMust s) τ QC := ok_bind (ok_imp h fun c τ1 h => by
  cases c with
  | nx => exact h.elim
  | bk => exact ok_pure h
  | ct => exact ok_pure h
  | rt w => exact ok_pure h)
variable {vs : List Nat} {bg : T → M Unit} {et : M Bool} {ee : M T} {QL : List T → Tau → Prop}
end Pl
end TL
end
section
set_option Elab.async false
set_option linter.all false
set_option autoImplicit false
namespace TL
open PySem
namespace Pl
variable {τ : Tau} {Q : T → Tau → Prop} {QC : Ctl → Tau → Prop}
theorem ok_repTA {a : M (List T)} (h : Ok a τ fun ts τ1 => ∃ ws, fRepT ts = some ws ∧ imms ws = true ∧ Q (.tup ws) τ1) : Ok (repTA a) τ Q := ok_bind (ok_imp h fun ts τ1 ⟨ws, e, hi, q⟩ => ok_bind (ok_of e (ok_bind (ok_immsC hi (ok_pure q)))))
end Pl
end TL
end
section
set_option Elab.async false
set_option linter.all false
set_option autoImplicit false
namespace TL
open PySem
namespace Pl
variable {τ : Tau} {Q : T → Tau → Prop} {QL : List T → Tau → Prop}
theorem w1G {α : Type} {P : α → Prop} {o : Option α} (h : ∃ w, o = some w ∧ P w) : ∃ w, o = some w ∧ P w := h
theorem ok_sAddS {i : Nat} {e : M T} (h : (∃ xs, τ[i]? = some (some (.set xs))) ∧ Ok e τ fun w τ1 => ∃ xs, τ1[i]? = some (some (.set xs)) ∧ askS xs w = true ∧ roomS xs w = true ∧ Q .non (τ1.set i (some (.set (addX xs w))))) : Ok (sAddS i e) τ Q := by
  obtain ⟨⟨xs, e0⟩, h⟩ := h
  refine ok_bind (ok_get e0 (ok_bind (ok_pure (ok_bind (ok_imp h fun w τ1 ⟨xs, e1, h1, h2, q⟩ => ok_bind (ok_get e1 (ok_bind (ok_pure (ok_bind ?_)))))))))
  rw [if_pos ⟨h1, h2⟩]
  exact ok_pure (ok_bind (ok_put (ok_pure q)))
theorem ok_set1M {e : M T} (h : Ok e τ fun x τ1 => askS [] x = true ∧ Q (.set [x]) τ1) : Ok (set1M e) τ Q := ok_bind (ok_imp h fun x τ1 ⟨h1, q⟩ => by rw [if_pos h1]; exact ok_pure q)
theorem ok_valsM {e : M T} (h : Ok e τ fun x τ1 => ∃ xs, oVals x = some xs ∧ QL xs τ1) : Ok (valsM e) τ QL := ok_bind (ok_imp h fun x τ1 ⟨w, e, q⟩ => ok_of e q)
def sLt (x y : Str) : Prop := x.cps.toList < y.cps.toList
def rl : List Str → List Str → Prop
  | x :: r, y :: s => sLt x y ∨ (x = y ∧ rl r s)
  | _, _ => False
def rlt (r s : List Str) : Prop := r.length < s.length ∨ (r.length = s.length ∧ rl r s)
def rle (r s : List Str) : Prop := r = s ∨ rlt r s
theorem rl_app : ∀ {a b : List Str} (u v : List Str), rl a b → rl (a ++ u) (b ++ v)
  | [], _, _, _, h => h.elim
  | _ :: _, [], _, _, h => h.elim
  | x :: a, y :: b, u, v, h => by
    rcases h with h | ⟨rfl, h⟩
    · exact .inl h
    · exact .inr ⟨rfl, rl_app u v h⟩
theorem rl_last (r : List Str) {a b : Str} (h : sLt a b) : rl (r ++ [a]) (r ++ [b]) := by
  induction r with
  | nil => exact .inl h
  | cons x r ih => exact .inr ⟨rfl, ih⟩
theorem rlt_snoc {r s : List Str} (a b : Str) (h : rlt r s) : rlt (r ++ [a]) (s ++ [b]) := by
  rcases h with h | ⟨e, h⟩
  · exact .inl (by simp; omega)
  · exact .inr ⟨by simp [e], rl_app _ _ h⟩
theorem rlt_last (r : List Str) {a b : Str} (h : sLt a b) : rlt (r ++ [a]) (r ++ [b]) := .inr ⟨by simp, rl_last r h⟩
theorem rlt_nil (r : List Str) (a : Str) : rlt [] (r ++ [a]) := .inl (by simp)
theorem snoc_ind {β : Type} {P : List β → Prop} (h0 : P []) (h1 : ∀ u a, P u → P (u ++ [a])) (w : List β) : P w := by
  have go : ∀ w : List β, P w.reverse := by
    intro w
    induction w with
    | nil => exact h0
    | cons a w ih => rw [List.reverse_cons]; exact h1 _ _ ih
  have := go w.reverse
  rwa [List.reverse_reverse] at this
section
variable {α : Type} [DecidableEq α] (nx : α → Str → Option α) (al : List Str) (start : α)
def bput (o : Option α) (r : List Str) (l : List (α × List Str)) : List (α × List Str) := match o with
  | some g => if g ∈ l.map (·.1) then l else l ++ [(g, r)]
  | none => l
def brun (s : Option α) (w : List Str) : Option α := w.foldl (fun o a => o.bind fun x => nx x a) s
theorem brun_snoc (s : Option α) (w : List Str) (a : Str) : brun nx s (w ++ [a]) = (brun nx s w).bind fun x => nx x a := by unfold brun; rw [List.foldl_append]; rfl
theorem bput_pre (o : Option α) (r : List Str) (l : List (α × List Str)) : l <+: bput o r l := by
  unfold bput
  split
  · split
    · exact List.prefix_refl _
    · exact List.prefix_append _ _
  · exact List.prefix_refl _
theorem pre_get {β : Type} {l m : List β} (h : l <+: m) {i : Nat} {x : β} (e : l[i]? = some x) : m[i]? = some x := by
  obtain ⟨t, rfl⟩ := h
  obtain ⟨hl, _⟩ := List.getElem?_eq_some_iff.mp e
  rw [List.getElem?_append_left hl]; exact e
/-- what is known when k entries are done, and of entry k (p) the tokens dn -/
structure BI (k : Nat) (p : Option (α × List Str)) (dn : List Str) (l : List (α × List Str)) : Prop where
  ne : l[0]? = some (start, [])
  nd : (l.map (·.1)).Nodup
  run : ∀ e ∈ l, brun nx (some start) e.2 = some e.1
  srt : l.Pairwise fun e f => rlt e.2 f.2
  org : ∀ e ∈ l, e.2 = [] ∨ (∃ j q a, j < k ∧ l[j]? = some q ∧ e.2 = q.2 ++ [a]) ∨ ∃ q a, p = some q ∧ a ∈ dn ∧ e.2 = q.2 ++ [a]
  fin : ∀ j q a g, j < k → l[j]? = some q → a ∈ al → nx q.1 a = some g → ∃ e ∈ l, e.1 = g ∧ rle e.2 (q.2 ++ [a])
  now : ∀ q a g, p = some q → a ∈ dn → nx q.1 a = some g → ∃ e ∈ l, e.1 = g ∧ rle e.2 (q.2 ++ [a])
variable {nx al start}
theorem BI.step {k : Nat} {p : α × List Str} {dn : List Str} {a : Str} {l : List (α × List Str)} (h : BI nx al start k (some p) dn l) (hp : l[k]? = some p) (ha : ∀ b ∈ dn, sLt b a) :
    BI nx al start k (some p) (dn ++ [a]) (bput (nx p.1 a) (p.2 ++ [a]) l) ∧ (bput (nx p.1 a) (p.2 ++ [a]) l)[k]? = some p := by
  have below : ∀ e ∈ l, rlt e.2 (p.2 ++ [a]) := by
    intro e he
    rcases h.org e he with e0 | ⟨j, q, b, hj, hq, e0⟩ | ⟨q, b, hq, hb, e0⟩
    · rw [e0]; exact rlt_nil _ _
    · rw [e0]
      refine rlt_snoc b a ?_
      obtain ⟨h1, h2⟩ := List.getElem?_eq_some_iff.mp hq
      obtain ⟨h3, h4⟩ := List.getElem?_eq_some_iff.mp hp
      have := List.pairwise_iff_getElem.mp h.srt j k h1 h3 hj
      rw [h2, h4] at this; exact this
    · cases hq
      rw [e0]; exact rlt_last _ (ha b hb)
  refine ⟨?_, pre_get (bput_pre _ _ _) hp⟩
  have hpre := bput_pre (nx p.1 a) (p.2 ++ [a]) l
  have orgw : ∀ {m : List (α × List Str)}, l <+: m → ∀ e ∈ l, e.2 = [] ∨ (∃ j q a, j < k ∧ m[j]? = some q ∧ e.2 = q.2 ++ [a]) ∨ ∃ q b, some p = some q ∧ b ∈ dn ++ [a] ∧ e.2 = q.2 ++ [b] := by
    intro m hm e he
    rcases h.org e he with e0 | ⟨j, q, b, hj, hq, e0⟩ | ⟨q, b, hq, hb, e0⟩
    · exact .inl e0
    · exact .inr (.inl ⟨j, q, b, hj, pre_get hm hq, e0⟩)
    · exact .inr (.inr ⟨q, b, hq, List.mem_append_left _ hb, e0⟩)
  have finw : ∀ {m : List (α × List Str)}, l <+: m → ∀ j q b g, j < k → m[j]? = some q → b ∈ al → nx q.1 b = some g → ∃ e ∈ m, e.1 = g ∧ rle e.2 (q.2 ++ [b]) := by
    intro m hm j q b g hj hq hb hn
    obtain ⟨h3, _⟩ := List.getElem?_eq_some_iff.mp hp
    have hq' : l[j]? = some q := by
      have := pre_get hm (List.getElem?_eq_getElem (show j < l.length by omega))
      rw [hq] at this
      rw [List.getElem?_eq_getElem (show j < l.length by omega), ← Option.some.inj this]
    obtain ⟨e, he, h1, h2⟩ := h.fin j q b g hj hq' hb hn
    exact ⟨e, hm.subset he, h1, h2⟩
  cases hn : nx p.1 a with
  | none =>
    refine ⟨h.ne, h.nd, h.run, h.srt, orgw (List.prefix_refl _), h.fin, ?_⟩
    intro q b g hq hb hg
    cases hq
    rcases List.mem_append.mp hb with hb | hb
    · exact h.now p b g rfl hb hg
    · rw [List.mem_singleton.mp hb, hn] at hg; cases hg
  | some g =>
    by_cases hm : g ∈ l.map (·.1)
    · have eb : bput (some g) (p.2 ++ [a]) l = l := by show (if g ∈ l.map (·.1) then l else _) = _; rw [if_pos hm]
      rw [eb]
      refine ⟨h.ne, h.nd, h.run, h.srt, orgw (List.prefix_refl _), h.fin, ?_⟩
      intro q b g' hq hb hg
      cases hq
      rcases List.mem_append.mp hb with hb | hb
      · exact h.now p b g' rfl hb hg
      · rw [List.mem_singleton.mp hb, hn] at hg; cases hg
        obtain ⟨e, he, e1⟩ := List.mem_map.mp hm
        rw [List.mem_singleton.mp hb]
        exact ⟨e, he, e1, .inr (below e he)⟩
    · have eb : bput (some g) (p.2 ++ [a]) l = l ++ [(g, p.2 ++ [a])] := by show (if g ∈ l.map (·.1) then l else _) = _; rw [if_neg hm]
      rw [hn, eb] at hpre
      rw [eb]
      refine ⟨pre_get hpre h.ne, ?_, ?_, ?_, ?_, finw hpre, ?_⟩
      · rw [List.map_append, List.nodup_append]
        refine ⟨h.nd, by simp, fun x hx y hy e => hm ?_⟩
        simp at hy; rw [← hy, ← e]; exact hx
      · intro e he
        rcases List.mem_append.mp he with he | he
        · exact h.run e he
        · rw [List.mem_singleton.mp he]
          show brun nx (some start) (p.2 ++ [a]) = some g
          rw [brun_snoc, h.run p (List.mem_of_getElem? hp)]
          exact hn
      · rw [List.pairwise_append]
        refine ⟨h.srt, List.pairwise_singleton _ _, fun e he f hf => ?_⟩
        rw [List.mem_singleton.mp hf]; exact below e he
      · intro e he
        rcases List.mem_append.mp he with he | he
        · exact orgw hpre e he
        · rw [List.mem_singleton.mp he]
          exact .inr (.inr ⟨p, a, rfl, by simp, rfl⟩)
      · intro q b g' hq hb hg
        cases hq
        rcases List.mem_append.mp hb with hb | hb
        · obtain ⟨e, he, h1, h2⟩ := h.now p b g' rfl hb hg
          exact ⟨e, List.mem_append_left _ he, h1, h2⟩
        · rw [List.mem_singleton.mp hb, hn] at hg; cases hg
          rw [List.mem_singleton.mp hb]
          exact ⟨(g, p.2 ++ [a]), by simp, rfl, .inl rfl⟩
end
end Pl
end TL
end
section
set_option Elab.async false
set_option linter.all false
set_option autoImplicit false
namespace TL
open PySem
namespace Pl
variable {τ : Tau} {Q : T → Tau → Prop} {QL : List T → Tau → Prop}
section
variable {a b : T} {l : List T} {c f : Str} {P : T → Prop} {PL : List T → Prop}
theorem gGet (h : ∃ w, oGet a b = some w ∧ P w) : ∃ w, oGet a b = some w ∧ P w := h
theorem gTup (h : ∃ w, oTup l = some w ∧ P w) : ∃ w, oTup l = some w ∧ P w := h
theorem gLen (h : ∃ w, fLen l = some w ∧ P w) : ∃ w, fLen l = some w ∧ P w := h
theorem gLt (h : ∃ w, oLt a b = some w ∧ P w) : ∃ w, oLt a b = some w ∧ P w := h
theorem gLe (h : ∃ w, oLe a b = some w ∧ P w) : ∃ w, oLe a b = some w ∧ P w := h
theorem gGt (h : ∃ w, oGt a b = some w ∧ P w) : ∃ w, oGt a b = some w ∧ P w := h
theorem gGe (h : ∃ w, oGe a b = some w ∧ P w) : ∃ w, oGe a b = some w ∧ P w := h
theorem gAdd (h : ∃ w, oAdd a b = some w ∧ P w) : ∃ w, oAdd a b = some w ∧ P w := h
theorem gSub (h : ∃ w, oSub a b = some w ∧ P w) : ∃ w, oSub a b = some w ∧ P w := h
theorem gEq (h : ∃ w, oEq a b = some w ∧ P w) : ∃ w, oEq a b = some w ∧ P w := h
theorem gNe (h : ∃ w, oNe a b = some w ∧ P w) : ∃ w, oNe a b = some w ∧ P w := h
theorem gIn (h : ∃ w, oIn a b = some w ∧ P w) : ∃ w, oIn a b = some w ∧ P w := h
theorem gNin (h : ∃ w, oNotIn a b = some w ∧ P w) : ∃ w, oNotIn a b = some w ∧ P w := h
theorem gIs (h : ∃ w, oIsN a b = some w ∧ P w) : ∃ w, oIsN a b = some w ∧ P w := h
theorem gNis (h : ∃ w, oNotN a b = some w ∧ P w) : ∃ w, oNotN a b = some w ∧ P w := h
theorem gFld (h : ∃ w, oFld c f a = some w ∧ P w) : ∃ w, oFld c f a = some w ∧ P w := h
theorem gCls (h : ∃ w, oCls c a = some w ∧ P w) : ∃ w, oCls c a = some w ∧ P w := h
theorem gList (h : ∃ w, fList l = some w ∧ PL w) : ∃ w, fList l = some w ∧ PL w := h
theorem gEl (h : ∃ w, oElems a = some w ∧ PL w) : ∃ w, oElems a = some w ∧ PL w := h
theorem gLst (h : ∃ w, oLst l = some w ∧ P w) : ∃ w, oLst l = some w ∧ P w := h
theorem gImm {A : Prop} (h : imm a = true ∧ A) : imm a = true ∧ A := h
theorem gEx {α : Type} {P : α → Prop} (h : ∃ x, P x) : ∃ x, P x := h
theorem gIf {C A B : Prop} {i : Decidable C} (h : @ite Prop C i A B) : @ite Prop C i A B := h
theorem okGc {m : M (Ctl)} {Q : Ctl → Tau → Prop} (h : Ok m τ Q) : Ok m τ Q := h
theorem okGt {m : M (T)} {Q : T → Tau → Prop} (h : Ok m τ Q) : Ok m τ Q := h
theorem okGl {m : M (List T)} {Q : List T → Tau → Prop} (h : Ok m τ Q) : Ok m τ Q := h
theorem okGb {m : M (Bool)} {Q : Bool → Tau → Prop} (h : Ok m τ Q) : Ok m τ Q := h
theorem okGo {m : M (Option Int)} {Q : Option Int → Tau → Prop} (h : Ok m τ Q) : Ok m τ Q := h
theorem okGu {m : M (Unit)} {Q : Unit → Tau → Prop} (h : Ok m τ Q) : Ok m τ Q := h
end
variable {QC : Ctl → Tau → Prop}
end Pl
end TL
end
section
set_option Elab.async false
set_option linter.all false
set_option autoImplicit false
namespace TL
open PySem
namespace Pl
variable {τ : Tau} {QC : Ctl → Tau → Prop}
theorem ok_tupF {a : M (List T)} {Q : T → Tau → Prop} (h : Ok a τ fun ts τ1 => ∃ w, fTup ts = some w ∧ Q (.tup w) τ1) : Ok (tupF a) τ Q := ok_bind (ok_imp h fun ts τ1 ⟨w, e, q⟩ => ok_bind (ok_of e (ok_pure q)))
theorem ok_dispT {ek ev : M T} {Q : T → Tau → Prop} (h : Ok ek τ fun k τ1 => Ok ev τ1 fun v τ2 => ∃ xs, k = .tup xs ∧ askOk [] (.tup xs) = true ∧ Q (.dct [(.tup xs, v)]) τ2) : Ok (dispT ek ev) τ Q := ok_bind (ok_imp h fun k τ1 h => ok_bind (ok_imp h (by
  rintro v τ2 ⟨xs, rfl, ha, q⟩
  dsimp only
  rw [if_pos ha]; exact ok_pure q)))
theorem gApp {i : Nat} {A : Prop} (h : (∃ xs, τ[i]? = some (some (T.lst xs))) ∧ A) : (∃ xs, τ[i]? = some (some (T.lst xs))) ∧ A := h
theorem gAppX {i : Nat} {A : Prop} (h : (∃ xs, τ[i]? = some (some xs)) ∧ A) : (∃ xs, τ[i]? = some (some xs)) ∧ A := h
theorem gImms {ws : List T} {A : Prop} (h : imms ws = true ∧ A) : imms ws = true ∧ A := h
theorem gRng {n : Nat} {P : List T → Prop} (h : ∃ w, fRange1 [.int (n : Int)] = some w ∧ P w) : ∃ w, fRange1 [.int (n : Int)] = some w ∧ P w := h
end Pl
end TL
end
section
set_option Elab.async false
set_option linter.all false
set_option autoImplicit false
namespace TL
open PySem
/-- the step ends by an error -/
def Xc {α : Type} (m : M α) (τ : Tau) (X : Exn → Tau → Prop) : Prop := ∃ x τ', m τ = .exc x τ' ∧ X x τ'
/-- the def ends by an error -/
def Fxc (f : List T → RE T) (ts : List T) (X : Exn → Prop) : Prop := ∃ x ps, f ts = .exc x ps ∧ X x
namespace Pl
section
variable {α β : Type} {τ : Tau} {X : Exn → Tau → Prop} {Q : T → Tau → Prop} {QC : Ctl → Tau → Prop} {QL : List T → Tau → Prop}
theorem fxc_imp {f : List T → RE T} {ts : List T} {X X' : Exn → Prop} (h : Fxc f ts X) (i : ∀ x, X x → X' x) : Fxc f ts X' := by
  obtain ⟨x, τ', e, q⟩ := h; exact ⟨x, τ', e, i _ q⟩
theorem xc_bind1 {m : M α} {f : α → M β} (h : Xc m τ X) : Xc (m >>= f) τ X := by
  obtain ⟨x, τ', e, q⟩ := h
  refine ⟨x, τ', ?_, q⟩
  show (m τ).next f = _
  rw [e]; rfl
theorem xc_bind2 {m : M α} {f : α → M β} (h : Ok m τ fun a τ' => Xc (f a) τ' X) : Xc (m >>= f) τ X := by
  obtain ⟨a, τ', e, x, τ2, e2, q⟩ := h
  refine ⟨x, τ2, ?_, q⟩
  show (m τ).next f = _
  rw [e]; exact e2
theorem xc_callA {f : List T → RE T} {a : M (List T)} (h : Ok a τ fun ts τ1 => Fxc f ts fun x => X x τ1) : Xc (callA f a) τ X := xc_bind2 (ok_imp h fun ts τ1 ⟨x, ps, e, q⟩ => ⟨x, τ1, by unfold call0; rw [e], q⟩)
theorem xc_seq1 {a b : M Ctl} (h : Xc a τ X) : Xc (sSeq a b) τ X := xc_bind1 h
theorem xc_seq2 {a b : M Ctl} (h : Ok a τ fun c τ1 => c = .nx ∧ Xc b τ1 X) : Xc (sSeq a b) τ X := xc_bind2 (ok_imp h fun c τ1 ⟨e, h⟩ => by subst e; exact h)
theorem xc_drop {e : M T} (h : Xc e τ X) : Xc (sDrop e) τ X := xc_bind1 h
theorem xc_if {c : M Bool} {a b : M Ctl} (h : Ok c τ fun x τ1 => if x = true then Xc a τ1 X else Xc b τ1 X) : Xc (sIf c a b) τ X := xc_bind2 (ok_imp h fun b τ1 h => by cases b <;> exact h)
theorem xc_raise {c : Str} {fs : List Str} {e : M (List T)} (h : Ok e τ fun ws τ1 => ws.length = fs.length ∧ X ⟨c, (fs.zip ws).reverse⟩ τ1) : Xc (sRaise c fs e) τ X := xc_bind2 (ok_imp h fun ws τ1 ⟨hl, q⟩ => by
  show Xc (if ws.length = fs.length then _ else _) τ1 X
  rw [if_pos hl]; exact ⟨_, τ1, rfl, q⟩)
theorem xc_for {es : M (List T)} {bg : T → M Unit} {b : M Ctl} (h : Ok es τ fun xs τ1 => Xc (sFor bg b xs) τ1 X) : Xc (forS es bg b) τ X := xc_bind2 h
theorem xc_sForA {bg : T → M Unit} {b : M Ctl} {x : T} {r : List T} (h : Ok (bg x) τ fun _ τ1 => Xc b τ1 X) : Xc (sFor bg b (x :: r)) τ X := xc_bind2 (ok_imp h fun _ τ1 h => xc_bind1 h)
theorem xc_sForB {bg : T → M Unit} {b : M Ctl} {x : T} {r : List T} (h : Ok (bg x) τ fun _ τ1 => Ok b τ1 fun c τ2 => c = .nx ∧ Xc (sFor bg b r) τ2 X) : Xc (sFor bg b (x :: r)) τ X := xc_bind2 (ok_imp h fun _ τ1 h => xc_bind2 (ok_imp h fun c τ2 ⟨e, h⟩ => by subst e; exact h))
theorem ok_sForB {bg : T → M Unit} {b : M Ctl} {x : T} {r : List T} (h : Ok (bg x) τ fun _ τ1 => Ok b τ1 fun c τ2 => c = .nx ∧ Ok (sFor bg b r) τ2 QC) : Ok (sFor bg b (x :: r)) τ QC := ok_bind (ok_imp h fun _ τ1 h => ok_bind (ok_imp h fun c τ2 ⟨e, h⟩ => by subst e; exact h))
theorem ok_sForN {bg : T → M Unit} {b : M Ctl} (h : QC .nx τ) : Ok (sFor bg b []) τ QC := ok_pure h
theorem fok_ofX {s : M Ctl} {np N : Nat} {ts : List T} (h : Ok s (ts.map some ++ List.replicate (N - np) none) fun c τ => match c with
    | .nx => Q .non (pad np τ)
    | .rt w => Q w (pad np τ)
    | _ => False) : Fok (runF s np N) ts Q := by
  obtain ⟨c, τ', e, q⟩ := h
  cases c with
  | nx => exact ⟨.non, pad np τ', by unfold runF; rw [e], q⟩
  | rt w => exact ⟨w, pad np τ', by unfold runF; rw [e], q⟩
  | bk => exact q.elim
  | ct => exact q.elim
theorem fok_atX {s : M Ctl} {np N : Nat} {ts : List T} {τ0 : Tau} (e : ts.map some ++ List.replicate (N - np) none = τ0) (h : Ok s τ0 fun c τ => match c with
    | .nx => Q .non (pad np τ)
    | .rt w => Q w (pad np τ)
    | _ => False) : Fok (runF s np N) ts Q := fok_ofX (by rw [e]; exact h)
theorem fxc_at {s : M Ctl} {np N : Nat} {ts : List T} {τ0 : Tau} {X : Exn → Prop} (e : ts.map some ++ List.replicate (N - np) none = τ0) (h : Xc s τ0 fun x _ => X x) : Fxc (runF s np N) ts X := by
  obtain ⟨x, τ', e2, q⟩ := h
  rw [← e] at e2
  exact ⟨x, pad np τ', by unfold runF; rw [e2], q⟩
theorem ok_tryO {cs : List Str} {b : M Ctl} {hs : List (Str × Option Nat × M Ctl)} (h : Ok b τ QC) : Ok (sTry cs b hs) τ QC := by
  obtain ⟨c, τ', e, q⟩ := h
  exact ⟨c, τ', by unfold sTry; rw [e], q⟩
theorem ok_tryX {cs : List Str} {b : M Ctl} {hs : List (Str × Option Nat × M Ctl)} (h : Xc b τ fun x τ1 => x.c ∈ cs ∧ Ok (sHand hs x) τ1 QC) : Ok (sTry cs b hs) τ QC := by
  obtain ⟨x, τ1, e, hc, c, τ', e2, q⟩ := h
  refine ⟨c, τ', ?_, q⟩
  unfold sTry; rw [e]; dsimp only; rw [if_pos hc]; exact e2
theorem ok_hand1 {c : Str} {i : Nat} {h : M Ctl} {r : List (Str × Option Nat × M Ctl)} {x : Exn} (e : exSub x.c c = true) (k : Ok h (τ.set i (some (.ins x.c x.fs))) fun c τ => QC c (τ.set i none)) : Ok (sHand ((c, some i, h) :: r) x) τ QC := by
  obtain ⟨a, τ', e2, q⟩ := k
  refine ⟨a, τ'.set i none, ?_, q⟩
  show sHand ((c, some i, h) :: r) x τ = _
  conv => lhs; unfold sHand
  rw [if_pos e]; show sAs i x h τ = _
  unfold sAs; rw [e2]; rfl
theorem ok_hand0 {c : Str} {h : M Ctl} {r : List (Str × Option Nat × M Ctl)} {x : Exn} (e : exSub x.c c = true) (k : Ok h τ QC) : Ok (sHand ((c, none, h) :: r) x) τ QC := by
  obtain ⟨a, τ', e2, q⟩ := k
  refine ⟨a, τ', ?_, q⟩
  show sHand ((c, none, h) :: r) x τ = _
  conv => lhs; unfold sHand
  rw [if_pos e]; show sAs0 h τ = _
  unfold sAs0; rw [e2]; rfl
theorem ok_handN {c : Str} {o : Option Nat} {h : M Ctl} {r : List (Str × Option Nat × M Ctl)} {x : Exn} (e : exSub x.c c = false) (k : Ok (sHand r x) τ QC) : Ok (sHand ((c, o, h) :: r) x) τ QC := by
  obtain ⟨a, τ', e2, q⟩ := k
  refine ⟨a, τ', ?_, q⟩
  unfold sHand; rw [if_neg (by rw [e]; exact Bool.false_ne_true)]; exact e2
theorem ok_exF {i : Nat} {f c : Str} {fs : List (Str × T)} {w : T} (e : τ[i]? = some (some (.ins c fs))) (e2 : fs.lookup f = some w) (h : Q w τ) : Ok (exF i f) τ Q := ok_bind (ok_get e (ok_of e2 h))
theorem ok_exI {i : Nat} {a b : Str} {fs : List (Str × T)} (e : τ[i]? = some (some (.ins a fs))) (h : Q (.bl (exSub a b || decide (b = PySem.Str.ofString "ValueError"))) τ) : Ok (exI i a b) τ Q := ok_bind (ok_get e (by
  show Ok (if a = a then _ else _) τ Q
  rw [if_pos rfl]; exact ok_pure h))
theorem ok_cutF {e : M T} {el eh : M (Option Int)} (h : Ok e τ fun x τ1 => Ok el τ1 fun lo τ2 => Ok eh τ2 fun hi τ3 => ∃ w, oCutL x lo hi = some w ∧ Q (.lst w) τ3) : Ok (cutF e el eh) τ Q := ok_bind (ok_imp h fun x τ1 h => ok_bind (ok_imp h fun lo τ2 h => ok_bind (ok_imp h fun hi τ3 ⟨w, e, q⟩ => ok_of (by rw [e]; rfl) q)))
end
end Pl
end TL
end
section
set_option Elab.async false
set_option Elab.async false
set_option linter.all false
set_option autoImplicit false
set_option maxRecDepth 100000
set_option maxHeartbeats 4000000
namespace My
open PySem TL
abbrev csL : List Str := []
abbrev csX : List Str := [(PySem.Str.ofString "BadScript"), (PySem.Str.ofString "NoNumber")]
def st__law_purse : M Ctl :=
  (sSeq (sSet 1 (sLc [4] (elems (cutI (get 0) noPart (part (con (.int 63))))) (put 4) (noE (M.pure true)) (noE (fnA fInt (consA (get 4) nilA)))))
    (sSeq (sIf (tst (op2 oEq (fnA fLen (consA (get 1) nilA)) (con (.int 0))))
    (sSet 1 (fnA oLst (consA (con (.int 0)) nilA)))
    sNx)
    (sSeq (sSet 2 (sLcO [4] 1 (put 4) (noE (M.pure true)) (noE (fnA fAbs (consA (get 4) nilA)))))
    (sSeq (forS (rng1 (consA (fnA fLen (consA (get 2) nilA)) nilA)) (put 3)
    (sIf (tst (op2 oLt (op2 oGet (get 2) (get 3)) (op2 oPow (con (.int 10)) (con (.int 18)))))
    (sSetI 2 (con (.int 0)) (get 3))
    sNx))
    (sRet (fnA oLst (consA (mv 1) (consA (mv 2) (consA (toS (con (.int 0))) nilA)))))))))
def f__law_purse : List T → RE T := noX (runF st__law_purse 1 5)
def st__law_draw : M Ctl :=
  (sSeq (sSetL 0 (toS (op2 oAdd (op2 oGet (get 0) (con (.int 2))) (con (.int 1)))) (con (.int 2)))
    (sSeq (sSet 2 (op2 oMod (fnA fInt (consA (op2 oGet (get 0) (con (.int 2))) nilA)) (fnA fLen (consA (op2 oGet (get 0) (con (.int 0))) nilA))))
    (sSeq (sSet 3 (toI (op2 oGet (op2 oGet (get 0) (con (.int 1))) (get 2))))
    (sSeq (sIf (tst (op2 oGt (get 3) (con (.int 0))))
    (sSeq (sSet2 0 (op2 oDiv (get 3) (get 1)) (con (.int 1)) (get 2))
    (sRet (op2 oMod (fnA fInt (consA (get 3) nilA)) (get 1))))
    sNx)
    (sSeq (sSet 4 (op2 oAdd (op2 oAdd (op2 oMod (fnA fInt (consA (op2 oGet (op2 oGet (get 0) (con (.int 0))) (get 2)) nilA)) (con (.int 2147483629))) (op2 oMul (con (.int 7919)) (op2 oGet (get 0) (con (.int 2))))) (con (.int 1))))
    (sSeq (sSet 4 (op2 oMod (fnA fInt (consA (op2 oMul (get 4) (con (.int 48271))) nilA)) (con (.int 2147483647))))
    (sSeq (sSet 4 (op2 oMod (fnA fInt (consA (op2 oMul (get 4) (op2 oAdd (op2 oDiv (get 4) (con (.int 1009))) (con (.int 69621)))) nilA)) (con (.int 2147483647))))
    (sSeq (sSet 4 (op2 oMod (fnA fInt (consA (op2 oMul (get 4) (op2 oAdd (op2 oDiv (get 4) (con (.int 2003))) (con (.int 40692)))) nilA)) (con (.int 2147483399))))
    (sRet (op2 oMod (fnA fInt (consA (op2 oDiv (get 4) (con (.int 16))) nilA)) (get 1)))))))))))
def f__law_draw : List T → RE T := noX (runF st__law_draw 2 5)
def st__law_name : M Ctl :=
  (sSeq (sSet 1 (con (.str (PySem.Str.ofString ""))))
    (sSeq (forS (rng1 (consA (op2 oAdd (con (.int 1)) (callL f__law_draw 0 0 (consA (get 0) (consA (con (.int 8)) nilA)))) nilA)) (put 2)
    (sSet 1 (op2 oAdd (get 1) (op2 oGet (con (.str (PySem.Str.ofString "abcdefghijklmnopqrstuvwxyz"))) (callL f__law_draw 0 0 (consA (get 0) (consA (con (.int 26)) nilA)))))))
    (sRet (get 1))))
def f__law_name : List T → RE T := noX (runF st__law_name 1 3)
def st__law_names : M Ctl :=
  (sSeq (sSet 2 (fnA oLst (consA (con (.str (PySem.Str.ofString "a"))) (consA (con (.str (PySem.Str.ofString "b"))) (consA (con (.str (PySem.Str.ofString "c"))) (consA (con (.str (PySem.Str.ofString "d"))) (consA (con (.str (PySem.Str.ofString "e"))) (consA (con (.str (PySem.Str.ofString "f"))) (consA (con (.str (PySem.Str.ofString "g"))) (consA (con (.str (PySem.Str.ofString "h"))) (consA (con (.str (PySem.Str.ofString "i"))) (consA (con (.str (PySem.Str.ofString "j"))) nilA))))))))))))
    (sSeq (sSet 3 (op2 oEq (callL f__law_draw 0 0 (consA (get 0) (consA (con (.int 3)) nilA))) (con (.int 0))))
    (sSeq (sSet 4 (fnA oLst nilA))
    (sSeq (forS (rng1 (consA (get 1) nilA)) (put 5)
    (sSeq (sSet 6 (op2 oGet (get 2) (callL f__law_draw 0 0 (consA (get 0) (consA (con (.int 10)) nilA)))))
    (sSeq (sIf (tst (get 3))
    (sSet 6 (callL f__law_name 0 0 (consA (get 0) nilA)))
    sNx)
    (sSeq (sIf (tst (op2 oIn (get 6) (get 4)))
    (sSet 6 (op2 oGet (sLc [7] (elems (get 2)) (put 7) (noE (tst (op2 oNotIn (get 7) (get 4)))) (noE (get 7))) (con (.int 0))))
    sNx)
    (sDrop (appS 4 (get 6)))))))
    (sRet (mv 4))))))
def f__law_names : List T → RE T := noX (runF st__law_names 2 8)
def st__law_script : M Ctl :=
  (sSeq (sSet 3 (fnA oLst nilA))
    (sSeq (forS (rng1 (consA (callL f__law_draw 0 0 (consA (get 0) (consA (op2 oAdd (get 2) (con (.int 1))) nilA))) nilA)) (put 4)
    (sSeq (sSet 5 (callL f__law_draw 0 0 (consA (get 0) (consA (con (.int 4)) nilA))))
    (sSeq (sSet 6 (toI (op2 oGet (get 1) (callL f__law_draw 0 0 (consA (get 0) (consA (fnA fLen (consA (get 1) nilA)) nilA))))))
    (sSeq (sSet 7 (sLc [8] (elems (get 1)) (put 8) (noE (tst (op2 oNe (get 8) (get 6)))) (noE (toI (get 8)))))
    (sIf (andT (tst (op2 oEq (get 5) (con (.int 3)))) (tst (op2 oGt (fnA fLen (consA (get 7) nilA)) (con (.int 0)))))
    (sDrop (appS 3 (fnA oTup (consA (con (.str (PySem.Str.ofString "turn"))) (consA (get 6) (consA (op2 oGet (get 7) (callL f__law_draw 0 0 (consA (get 0) (consA (fnA fLen (consA (get 7) nilA)) nilA)))) nilA))))))
    (sDrop (appS 3 (fnA oTup (consA (op2 oGet (fnA oLst (consA (con (.str (PySem.Str.ofString "keep"))) (consA (con (.str (PySem.Str.ofString "drop"))) (consA (con (.str (PySem.Str.ofString "put"))) (consA (con (.str (PySem.Str.ofString "keep"))) nilA))))) (get 5)) (consA (get 6) nilA))))))))))
    (sRet (mv 3))))
def f__law_script : List T → RE T := noX (runF st__law_script 3 9)
def st__law_strange : M Ctl :=
  (sSeq (sSet 2 (fnA oLst (consA (toI (get 1)) nilA)))
    (sSeq (forS (rng1 (consA (con (.int 80)) nilA)) (put 3)
    (sSet 2 (fnA oLst (consA (get 2) nilA))))
    (sSeq (sSet 4 (fnA oLst (consA (con (.non)) (consA (con (.bl true)) (consA (con (.int 0)) (consA (con (.str (PySem.Str.ofString ""))) (consA (con (.str (PySem.Str.ofString "A"))) (consA (con (.str (PySem.Str.ofString "a1"))) (consA (con (.str (PySem.Str.ofString "abcdefghi"))) (consA (con (.str (PySem.Str.ofString " a"))) (consA (op1 oNeg (con (.int 7))) nilA)))))))))))
    (sSeq (sSet 4 (newA fCat (consA (get 4) (consA (fnA oLst (consA (fnA oLst (consA (toI (get 1)) nilA)) (consA (fnA oTup (consA (toI (get 1)) nilA)) (consA (fnA oLst nilA) (consA (con (.dct [])) (consA (op2 oAdd (get 1) (con (.str (PySem.Str.ofString " ")))) (consA (op2 oPow (con (.int 10)) (con (.int 30))) (consA (get 2) nilA)))))))) nilA))))
    (sRet (op2 oGet (get 4) (callL f__law_draw 0 0 (consA (get 0) (consA (fnA fLen (consA (get 4) nilA)) nilA)))))))))
def f__law_strange : List T → RE T := noX (runF st__law_strange 2 5)
def st__law_bad_edit : M Ctl :=
  (sSeq (sSet 2 (callL f__law_draw 0 0 (consA (get 0) (consA (con (.int 3)) nilA))))
    (sSeq (sIf (tst (op2 oEq (get 2) (con (.int 0))))
    (sRet (callL f__law_strange 0 0 (consA (get 0) (consA (get 1) nilA))))
    sNx)
    (sSeq (sIf (tst (op2 oEq (get 2) (con (.int 1))))
    (sSeq (sSet 3 (op2 oGet (fnA oLst (consA (con (.str (PySem.Str.ofString "keep"))) (consA (con (.str (PySem.Str.ofString "drop"))) (consA (con (.str (PySem.Str.ofString "put"))) (consA (con (.str (PySem.Str.ofString "turn"))) nilA))))) (callL f__law_draw 0 0 (consA (get 0) (consA (con (.int 4)) nilA)))))
    (sSeq (sSet 4 (op2 oGet (fnA oLst (consA (con (.non)) (consA (con (.str (PySem.Str.ofString ""))) (consA (con (.str (PySem.Str.ofString "Ab"))) (consA (op2 oAdd (get 1) (con (.str (PySem.Str.ofString "1")))) (consA (con (.str (PySem.Str.ofString "abcdefghi"))) (consA (con (.int 7)) (consA (fnA oTup (consA (toI (get 1)) nilA)) nilA)))))))) (callL f__law_draw 0 0 (consA (get 0) (consA (con (.int 7)) nilA)))))
    (sRet (op2 oGet (fnA oLst (consA (fnA oTup (consA (get 3) (consA (get 4) nilA))) (consA (fnA oTup (consA (get 3) (consA (get 4) (consA (toI (get 1)) nilA)))) (consA (fnA oTup (consA (get 3) (consA (toI (get 1)) (consA (get 4) nilA)))) nilA)))) (callL f__law_draw 0 0 (consA (get 0) (consA (con (.int 3)) nilA)))))))
    sNx)
    (sSeq (sSet 4 (fnA oLst (consA (fnA oLst (consA (con (.str (PySem.Str.ofString "keep"))) (consA (toI (get 1)) nilA))) (consA (fnA oTup (consA (con (.str (PySem.Str.ofString "keep"))) nilA)) (consA (fnA oTup (consA (con (.str (PySem.Str.ofString "keep"))) (consA (toI (get 1)) (consA (op2 oAdd (get 1) (con (.str (PySem.Str.ofString "a")))) nilA)))) (consA (fnA oTup (consA (con (.str (PySem.Str.ofString "turn"))) (consA (toI (get 1)) (consA (toI (get 1)) nilA)))) (consA (fnA oTup (consA (con (.str (PySem.Str.ofString "turn"))) (consA (toI (get 1)) nilA))) (consA (fnA oTup (consA (con (.str (PySem.Str.ofString "hold"))) (consA (toI (get 1)) nilA))) nilA))))))))
    (sSeq (sSet 4 (newA fCat (consA (get 4) (consA (fnA oLst (consA (fnA oTup (consA (con (.str (PySem.Str.ofString "Keep"))) (consA (toI (get 1)) nilA))) (consA (fnA oTup (consA (toI (get 1)) (consA (con (.str (PySem.Str.ofString "keep"))) nilA))) (consA (fnA oTup (consA (con (.str (PySem.Str.ofString "put"))) (consA (toI (get 1)) (consA (toI (get 1)) (consA (toI (get 1)) nilA))))) (consA (fnA oTup nilA) (consA (fnA oTup (consA (con (.str (PySem.Str.ofString "turn"))) (consA (toI (get 1)) (consA (toI (get 1)) (consA (toI (get 1)) nilA))))) (consA (fnA oTup (consA (con (.int 7)) (consA (toI (get 1)) nilA))) nilA))))))) nilA))))
    (sRet (op2 oGet (get 4) (callL f__law_draw 0 0 (consA (get 0) (consA (con (.int 12)) nilA))))))))))
def f__law_bad_edit : List T → RE T := noX (runF st__law_bad_edit 2 5)
def st__law_good : M Ctl :=
  (sSeq (sIf (orT (notT (tst (isaM ["tuple"] (get 0)))) (orT (tst (op2 oLt (fnA fLen (consA (get 0) nilA)) (con (.int 2)))) (tst (op2 oGt (fnA fLen (consA (get 0) nilA)) (con (.int 3))))))
    (sRet (con (.bl false)))
    sNx)
    (sSeq (forS (elems (cutN (get 0) (part (con (.int 1))) noPart)) (put 1)
    (sSeq (sIf (orT (notT (tst (isaM ["str"] (get 1)))) (orT (tst (op2 oEq (get 1) (con (.str (PySem.Str.ofString ""))))) (tst (op2 oGt (fnA fLen (consA (get 1) nilA)) (con (.int 8))))))
    (sRet (con (.bl false)))
    sNx)
    (sIf (tst (op2 oGt (fnA fLen (consA (sLc [2] (elems (get 1)) (put 2) (noE (tst (op2 oNotIn (get 2) (con (.str (PySem.Str.ofString "abcdefghijklmnopqrstuvwxyz")))))) (noE (toI (get 2)))) nilA)) (con (.int 0))))
    (sRet (con (.bl false)))
    sNx)))
    (sSeq (sIf (tst (op2 oEq (fnA fLen (consA (get 0) nilA)) (con (.int 3))))
    (sRet (andM (op2 oEq (op2 oGet (get 0) (con (.int 0))) (con (.str (PySem.Str.ofString "turn")))) (op2 oNe (op2 oGet (get 0) (con (.int 1))) (op2 oGet (get 0) (con (.int 2))))))
    sNx)
    (sRet (orM (op2 oEq (op2 oGet (get 0) (con (.int 0))) (con (.str (PySem.Str.ofString "keep")))) (orM (op2 oEq (op2 oGet (get 0) (con (.int 0))) (con (.str (PySem.Str.ofString "drop")))) (op2 oEq (op2 oGet (get 0) (con (.int 0))) (con (.str (PySem.Str.ofString "put"))))))))))
def f__law_good : List T → RE T := noX (runF st__law_good 1 3)
def st__law_place : M Ctl :=
  (sSeq (sIf (orT (andT (notT (tst (isaM ["list"] (get 0)))) (notT (tst (isaM ["tuple"] (get 0))))) (tst (op2 oGt (fnA fLen (consA (get 0) nilA)) (con (.int 5000)))))
    (sRet (fnA oLst (consA (op1 oNeg (con (.int 1))) nilA)))
    sNx)
    (sRet (cutI (sLc [1] (rng1 (consA (fnA fLen (consA (get 0) nilA)) nilA)) (put 1) (noE (notT (tst (callA f__law_good (consA (op2 oGet (get 0) (get 1)) nilA))))) (noE (get 1))) noPart (part (con (.int 1))))))
def f__law_place : List T → RE T := noX (runF st__law_place 1 2)
def st_is_items : M Ctl :=
  (sRet (isaM ["list", "tuple"] (get 0)))
def f_is_items : List T → RE T := noX (runF st_is_items 1 1)
def st_is_name : M Ctl :=
  (sSeq (sIf (orT (notT (tst (isaM ["str"] (get 0)))) (notT (tst (chainM oLe oLe (con (.int 1)) (fnA fLen (consA (get 0) nilA)) (con (.int 8))))))
    (sRet (con (.bl false)))
    sNx)
    (sSeq (forS (elems (get 0)) (put 1)
    (sIf (tst (op2 oNotIn (get 1) (con (.str (PySem.Str.ofString "abcdefghijklmnopqrstuvwxyz")))))
    (sRet (con (.bl false)))
    sNx))
    (sRet (con (.bl true)))))
def f_is_name : List T → RE T := noX (runF st_is_name 1 2)
def st_is_edit : M Ctl :=
  (sSeq (sIf (orT (notT (tst (isaM ["tuple"] (get 0)))) (notT (tst (chainM oLe oLe (con (.int 2)) (fnA fLen (consA (get 0) nilA)) (con (.int 3))))))
    (sRet (con (.bl false)))
    sNx)
    (sSeq (sIf (orT (notT (tst (isaM ["str"] (op2 oGet (get 0) (con (.int 0)))))) (notT (tst (callA f_is_name (consA (op2 oGet (get 0) (con (.int 1))) nilA)))))
    (sRet (con (.bl false)))
    sNx)
    (sSeq (sIf (tst (op2 oEq (fnA fLen (consA (get 0) nilA)) (con (.int 2))))
    (sRet (op2 oIn (op2 oGet (get 0) (con (.int 0))) (fnA oTup (consA (con (.str (PySem.Str.ofString "keep"))) (consA (con (.str (PySem.Str.ofString "drop"))) (consA (con (.str (PySem.Str.ofString "put"))) nilA))))))
    sNx)
    (sRet (andM (op2 oEq (op2 oGet (get 0) (con (.int 0))) (con (.str (PySem.Str.ofString "turn")))) (andM (callA f_is_name (consA (op2 oGet (get 0) (con (.int 2))) nilA)) (op2 oNe (op2 oGet (get 0) (con (.int 1))) (op2 oGet (get 0) (con (.int 2))))))))))
def f_is_edit : List T → RE T := noX (runF st_is_edit 1 1)
def st_bad_edit : M Ctl :=
  (sSeq (sIf (orT (notT (tst (callA f_is_items (consA (get 0) nilA)))) (tst (op2 oGt (fnA fLen (consA (get 0) nilA)) (con (.int 5000)))))
    (sRet (op1 oNeg (con (.int 1))))
    sNx)
    (sSeq (forS (enumM (get 0)) (putT [1, 2])
    (sIf (notT (tst (callA f_is_edit (consA (get 2) nilA))))
    (sRet (toI (get 1)))
    sNx))
    (sRet (con (.non)))))
def f_bad_edit : List T → RE T := noX (runF st_bad_edit 1 3)
def st_need_script : M Ctl :=
  (sSeq (sSet 1 (callA f_bad_edit (consA (get 0) nilA)))
    (sIf (tst (op2 oNotN (get 1) (con (.non))))
    (sRaise (PySem.Str.ofString "BadScript") [(PySem.Str.ofString "place")] (consA (get 1) nilA))
    sNx))
def f_need_script : List T → RE T := runF st_need_script 1 2
def st_source : M Ctl :=
  (sSeq (sDrop (callA f_need_script (consA (get 0) nilA)))
    (sRet (tupA (consA (sLc [1] (elems (get 0)) (put 1) (noE (tst (op2 oNe (op2 oGet (get 1) (con (.int 0))) (con (.str (PySem.Str.ofString "put")))))) (noE (toI (op2 oGet (get 1) (con (.int 1)))))) nilA))))
def f_source : List T → RE T := runF st_source 1 2
def st_target : M Ctl :=
  (sSeq (sDrop (callA f_need_script (consA (get 0) nilA)))
    (sRet (tupA (consA (sLc [1] (elems (get 0)) (put 1) (noE (tst (op2 oNe (op2 oGet (get 1) (con (.int 0))) (con (.str (PySem.Str.ofString "drop")))))) (noE (toI (op2 oGet (get 1) (op1 oNeg (con (.int 1))))))) nilA))))
def f_target : List T → RE T := runF st_target 1 2
def st_cost : M Ctl :=
  (sSeq (sDrop (callA f_need_script (consA (get 0) nilA)))
    (sRet (fnA fLen (consA (sLc [1] (elems (get 0)) (put 1) (noE (tst (op2 oNe (op2 oGet (get 1) (con (.int 0))) (con (.str (PySem.Str.ofString "keep")))))) (noE (toI (get 1)))) nilA))))
def f_cost : List T → RE T := runF st_cost 1 2
def st_is_integer : M Ctl :=
  (sRet (andM (isaM ["int"] (get 0)) (notM (isaM ["bool"] (get 0)))))
def f_is_integer : List T → RE T := noX (runF st_is_integer 1 1)
def st_is_within : M Ctl :=
  (sRet (andM (callA f_is_integer (consA (get 0) nilA)) (chainM oLe oLe (get 1) (get 0) (get 2))))
def f_is_within : List T → RE T := noX (runF st_is_within 3 3)
def st_need_within : M Ctl :=
  (sIf (notT (tst (callA f_is_within (consA (get 0) (consA (get 1) (consA (get 2) nilA))))))
    (sRaise (PySem.Str.ofString "NoNumber") [] (M.pure []))
    sNx)
def f_need_within : List T → RE T := runF st_need_within 3 3
def st_turned : M Ctl :=
  (sSeq (forS (elems (fnA oTup (consA (get 0) (consA (get 1) (consA (get 2) nilA))))) (put 4)
    (sDrop (callA f_need_script (consA (get 4) nilA))))
    (sSeq (sDrop (callA f_need_within (consA (get 3) (consA (con (.int 0)) (consA (con (.int 8)) nilA)))))
    (sSeq (sIf (tst (op2 oGt (op2 oAdd (op2 oAdd (fnA fLen (consA (get 0) nilA)) (op2 oMul (get 3) (fnA fLen (consA (get 1) nilA)))) (fnA fLen (consA (get 2) nilA))) (con (.int 5000))))
    M.stuck
    sNx)
    (sRet (fnA oLst (starM (get 0) (starFM (repM (newI fList (consA (get 1) nilA)) (get 3)) (starM (get 2) nilA))))))))
def f_turned : List T → RE T := runF st_turned 4 5
def st__law_ask : M Ctl :=
  (sSeq (sTry csX (sSeq (sIf (tst (op2 oEq (get 0) (con (.int 0))))
    (sDrop (callA f_source (consA (get 1) nilA)))
    sNx)
    (sSeq (sIf (tst (op2 oEq (get 0) (con (.int 1))))
    (sDrop (callA f_target (consA (get 1) nilA)))
    sNx)
    (sSeq (sIf (tst (op2 oEq (get 0) (con (.int 2))))
    (sDrop (callA f_cost (consA (get 1) nilA)))
    sNx)
    (sSeq (sIf (tst (op2 oEq (get 0) (con (.int 3))))
    (sDrop (callA f_turned (consA (get 1) (consA (fnA oLst nilA) (consA (fnA oLst nilA) (consA (con (.int 0)) nilA))))))
    sNx)
    (sSeq (sIf (tst (op2 oEq (get 0) (con (.int 4))))
    (sDrop (callA f_turned (consA (fnA oLst nilA) (consA (get 1) (consA (con (.int 7)) (consA (con (.int 0)) nilA))))))
    sNx)
    (sIf (tst (op2 oEq (get 0) (con (.int 5))))
    (sDrop (callA f_turned (consA (fnA oLst nilA) (consA (fnA oTup nilA) (consA (get 1) (consA (con (.int 9)) nilA))))))
    sNx))))))
    [((PySem.Str.ofString "BadScript"), some 2, (sSeq (sSet 3 (fnA oLst (consA (exI 2 (PySem.Str.ofString "BadScript") (PySem.Str.ofString "SlipError")) (consA (exI 2 (PySem.Str.ofString "BadScript") (PySem.Str.ofString "ValueError")) (consA (exI 2 (PySem.Str.ofString "BadScript") (PySem.Str.ofString "NoRow")) (consA (exI 2 (PySem.Str.ofString "BadScript") (PySem.Str.ofString "NoNumber")) nilA))))))
    (sSeq (sIf (orT (tst (op2 oNe (get 3) (fnA oLst (consA (con (.bl true)) (consA (con (.bl true)) (consA (con (.bl false)) (consA (con (.bl false)) nilA))))))) (tst (isaM ["bool"] (exF 2 (PySem.Str.ofString "place")))))
    (sRet (fnA oLst (consA (con (.str (PySem.Str.ofString "another class"))) nilA)))
    sNx)
    (sRet (fnA oLst (consA (exF 2 (PySem.Str.ofString "place")) nilA)))))), ((PySem.Str.ofString "NoNumber"), none, (sRet (fnA oLst (consA (con (.str (PySem.Str.ofString "number"))) nilA))))])
    (sRet (fnA oLst nilA)))
def f__law_ask : List T → RE T := noX (runF st__law_ask 2 4)
def st_law : M Ctl :=
  (sSeq (sSet 1 (callA f__law_purse (consA (get 0) nilA)))
    (sSeq (sSet 2 (callL f__law_draw 1 0 (consA (get 1) (consA (con (.int 8)) nilA))))
    (sSeq (sSet 3 (callL f__law_draw 1 0 (consA (get 1) (consA (con (.int 3)) nilA))))
    (sSeq (sSet 4 (callL f__law_names 1 0 (consA (get 1) (consA (con (.int 2)) nilA))))
    (sSeq (sSet 5 (callL f__law_script 1 0 (consA (get 1) (consA (get 4) (consA (con (.int 20)) nilA)))))
    (sSeq (sIf (tst (op2 oEq (get 2) (con (.int 1))))
    (sSet 5 (newA fCat (consA (get 5) (consA (repM (fnA oLst (consA (fnA oTup (consA (con (.str (PySem.Str.ofString "keep"))) (consA (op2 oGet (get 4) (con (.int 0))) nilA))) nilA)) (op2 oSub (con (.int 5000)) (fnA fLen (consA (get 5) nilA)))) nilA))))
    sNx)
    (sSeq (forS (rng1 (consA (get 3) nilA)) (put 6)
    (sSeq (sSet 7 (callL f__law_draw 1 0 (consA (get 1) (consA (op2 oAdd (fnA fLen (consA (get 5) nilA)) (con (.int 1))) nilA))))
    (sSet 5 (newA fCat (consA (newA fCat (consA (cutN (get 5) noPart (part (get 7))) (consA (fnA oLst (consA (callL f__law_bad_edit 1 0 (consA (get 1) (consA (op2 oGet (get 4) (con (.int 0))) nilA))) nilA)) nilA))) (consA (cutN (get 5) (part (op2 oAdd (get 7) (fnA fInt (consA (andM (op2 oEq (get 2) (con (.int 1))) (op2 oLt (get 7) (fnA fLen (consA (get 5) nilA)))) nilA)))) noPart) nilA))))))
    (sSeq (sIf (tst (op2 oEq (get 2) (con (.int 2))))
    (sSet 5 (newA fCat (consA (get 5) (consA (repM (fnA oLst (consA (fnA oTup (consA (con (.str (PySem.Str.ofString "keep"))) (consA (op2 oGet (get 4) (con (.int 0))) nilA))) nilA)) (op2 oSub (con (.int 5001)) (fnA fLen (consA (get 5) nilA)))) nilA))))
    sNx)
    (sSeq (sIf (tst (op2 oEq (get 2) (con (.int 3))))
    (sSet 5 (op2 oGet (fnA oLst (consA (con (.non)) (consA (con (.int 7)) (consA (op2 oGet (get 4) (con (.int 0))) (consA (con (.str (PySem.Str.ofString ""))) (consA (dispT (fnA oTup (consA (con (.str (PySem.Str.ofString "keep"))) (consA (op2 oGet (get 4) (con (.int 0))) nilA))) (con (.int 1))) (consA (con (.bl true)) nilA))))))) (callL f__law_draw 1 0 (consA (get 1) (consA (con (.int 6)) nilA)))))
    sNx)
    (sSeq (sIf (tst (op2 oEq (get 2) (con (.int 4))))
    (sSet 5 (tupF (consA (get 5) nilA)))
    sNx)
    (sSeq (sSet 8 (callA f__law_place (consA (get 5) nilA)))
    (sSeq (sSet 9 (fnA oLst (consA (get 8) (consA (get 8) (consA (get 8) (consA (get 8) (consA (get 8) (consA (get 8) nilA))))))))
    (sSeq (sIf (tst (op2 oEq (fnA fLen (consA (get 8) nilA)) (con (.int 0))))
    (sSeq (sSetI 9 (fnA oLst (consA (op1 oNeg (con (.int 1))) nilA)) (con (.int 4)))
    (sSetI 9 (fnA oLst (consA (con (.str (PySem.Str.ofString "number"))) nilA)) (con (.int 5))))
    sNx)
    (sRet (op2 oEq (sLc [10] (rng1 (consA (con (.int 6)) nilA)) (put 10) (noE (M.pure true)) (noE (callA f__law_ask (consA (get 10) (consA (get 5) nilA))))) (get 9))))))))))))))))
def f_law : List T → RE T := noX (runF st_law 1 11)
end My
end
section
set_option Elab.async false
set_option Elab.async false
set_option linter.all false
set_option autoImplicit false
set_option maxHeartbeats 1000000
set_option maxRecDepth 100000
namespace My
open PySem TL TL.Pl
section
local macro_rules | `(tactic| walk_at "g1") => `(tactic| first
  | ((with_reducible refine okGc ?_); (first | with_reducible refine ok_seq ?_ | with_reducible refine ok_set ?_ | with_reducible refine ok_ret ?_ | with_reducible refine ok_drop ?_ | with_reducible refine ok_if ?_ | with_reducible refine ok_nx ?_ | with_reducible refine ok_sSetL ?_ | with_reducible refine ok_sSetI ?_ | with_reducible refine ok_sSet2 ?_ | with_reducible refine ok_for ?_))
  | ((with_reducible refine okGt ?_); (first | with_reducible refine ok_get rfl ?_ | with_reducible refine ok_con ?_ | with_reducible refine ok_op2 ?_ | with_reducible refine ok_fnA ?_ | with_reducible refine ok_toI ?_ | with_reducible refine ok_callA ?_ | with_reducible refine ok_callL ?_ | with_reducible refine ok_op1 ?_ | with_reducible refine ok_mv rfl ?_ | with_reducible refine ok_newA ?_ | with_reducible refine ok_newI ?_ | with_reducible refine ok_toS ?_ | with_reducible refine ok_isa ?_ | with_reducible refine ok_isaI ?_ | with_reducible refine ok_isaO ?_ | with_reducible refine ok_fld ?_ | with_reducible refine ok_chain ?_ | with_reducible refine ok_andM ?_ | with_reducible refine ok_orM ?_ | with_reducible refine ok_notM ?_ | with_reducible refine ok_makeA ?_ | with_reducible refine ok_cutN ?_ | with_reducible refine ok_cutI ?_ | with_reducible refine ok_get1D ?_ | with_reducible refine ok_ifE ?_ | with_reducible refine ok_appS ?_))
  | ((with_reducible refine okGl ?_); (first | with_reducible refine ok_cons ?_ | with_reducible refine ok_nil ?_ | with_reducible refine ok_elems ?_ | with_reducible refine ok_selfA ?_ | with_reducible refine ok_propA ?_ | with_reducible refine ok_rng1 ?_ | with_reducible refine ok_rng2 ?_ | with_reducible refine ok_enum ?_))
  | ((with_reducible refine okGb ?_); (first | with_reducible refine ok_tst ?_ | with_reducible refine ok_andT ?_ | with_reducible refine ok_orT ?_ | with_reducible refine ok_notT ?_ | with_reducible refine ok_truT ?_))
  | ((with_reducible refine okGo ?_); (first | with_reducible refine ok_noPart ?_ | with_reducible refine ok_part ?_))
  | simp only [List.set_cons_zero, List.set_cons_succ]
  | dsimp only)
local macro_rules | `(tactic| walk_at "go") => `(tactic| repeat (first
  | ((with_reducible refine okGc ?_); (first | with_reducible refine ok_seq ?_ | with_reducible refine ok_set ?_ | with_reducible refine ok_ret ?_ | with_reducible refine ok_drop ?_ | with_reducible refine ok_if ?_ | with_reducible refine ok_nx ?_ | with_reducible refine ok_sSetL ?_ | with_reducible refine ok_sSetI ?_ | with_reducible refine ok_sSet2 ?_ | with_reducible refine ok_for ?_))
  | ((with_reducible refine okGt ?_); (first | with_reducible refine ok_get rfl ?_ | with_reducible refine ok_con ?_ | with_reducible refine ok_op2 ?_ | with_reducible refine ok_fnA ?_ | with_reducible refine ok_toI ?_ | with_reducible refine ok_callA ?_ | with_reducible refine ok_callL ?_ | with_reducible refine ok_op1 ?_ | with_reducible refine ok_mv rfl ?_ | with_reducible refine ok_newA ?_ | with_reducible refine ok_newI ?_ | with_reducible refine ok_toS ?_ | with_reducible refine ok_isa ?_ | with_reducible refine ok_isaI ?_ | with_reducible refine ok_isaO ?_ | with_reducible refine ok_fld ?_ | with_reducible refine ok_chain ?_ | with_reducible refine ok_andM ?_ | with_reducible refine ok_orM ?_ | with_reducible refine ok_notM ?_ | with_reducible refine ok_makeA ?_ | with_reducible refine ok_cutN ?_ | with_reducible refine ok_cutI ?_ | with_reducible refine ok_get1D ?_ | with_reducible refine ok_ifE ?_ | with_reducible refine ok_appS ?_))
  | ((with_reducible refine okGl ?_); (first | with_reducible refine ok_cons ?_ | with_reducible refine ok_nil ?_ | with_reducible refine ok_elems ?_ | with_reducible refine ok_selfA ?_ | with_reducible refine ok_propA ?_ | with_reducible refine ok_rng1 ?_ | with_reducible refine ok_rng2 ?_ | with_reducible refine ok_enum ?_))
  | ((with_reducible refine okGb ?_); (first | with_reducible refine ok_tst ?_ | with_reducible refine ok_andT ?_ | with_reducible refine ok_orT ?_ | with_reducible refine ok_notT ?_ | with_reducible refine ok_truT ?_))
  | ((with_reducible refine okGo ?_); (first | with_reducible refine ok_noPart ?_ | with_reducible refine ok_part ?_))
  | simp only [List.set_cons_zero, List.set_cons_succ]
  | dsimp only))
section
def intsT (xs : List Int) : T := .lst (xs.map .int)
def purseT (cells great : List Int) (c : Int) : T := .lst [intsT cells, intsT great, .int c]
structure Good (cells great : List Int) (c : Int) : Prop where
  len : great.length = cells.length
  pos : 0 < cells.length
  nn : ∀ g ∈ great, 0 ≤ g
  c0 : 0 ≤ c
theorem ints_get {xs : List Int} {i : Int} (h0 : 0 ≤ i) (h1 : i < xs.length) : ∃ v k, xs[k]? = some v ∧ i = (k : Nat) ∧ oGet (intsT xs) (.int i) = some (.int v) := by
  obtain ⟨k, rfl⟩ : ∃ k : Nat, i = k := ⟨i.toNat, by omega⟩
  have hk : k < xs.length := by omega
  exact ⟨xs[k], k, List.getElem?_eq_getElem hk, rfl, pyAt_nat (by rw [List.getElem?_map, List.getElem?_eq_getElem hk]; rfl)⟩
theorem draw_ok {cells great : List Int} {c many : Int} (h : Good cells great c) (h0 : 0 < many) (h1 : many < 1073741824) :
    Fok f__law_draw [purseT cells great c, .int many] fun w ps => ∃ r great', w = .int r ∧ 0 ≤ r ∧ r < many ∧ ps = [some (purseT cells great' (c + 1)), some (.int many)] ∧ Good cells great' (c + 1) := by
  have hp := h.pos
  have hlen : (0 : Int) < ((cells.map T.int).length : Int) := by rw [List.length_map]; omega
  have ha0 : 0 ≤ (c + 1) % ((cells.map T.int).length : Int) := Int.emod_nonneg _ (by omega)
  have ha1 : (c + 1) % ((cells.map T.int).length : Int) < cells.length := by
    have := Int.emod_lt_of_pos (c + 1) hlen
    rw [List.length_map] at this ⊢; exact this
  refine fok_at (τ0 := [some _, some _, none, none, none]) rfl ?_
  unfold st__law_draw
  walk_at "go"
  refine w1 rfl ?_
  walk_at "go"
  refine w1 rfl ⟨rfl, ⟨_, rfl⟩, ?_⟩
  walk_at "go"
  refine ⟨[intsT cells, intsT great, .int c], [intsT cells, intsT great, .int (c + 1)], rfl, rfl, ?_⟩
  walk_at "go"
  refine w1 (a := .int (c + 1)) rfl ?_
  walk_at "go"
  refine w1 (a := .int (c + 1)) rfl ?_
  walk_at "go"
  refine w1 (a := intsT cells) rfl ?_
  walk_at "go"
  refine w1 (a := .int ((cells.map T.int).length : Int)) rfl (w1 (oMod_pos hlen) ?_)
  generalize hat : (c + 1) % ((cells.map T.int).length : Int) = at_ at ha0 ha1
  walk_at "go"
  refine w1 (a := intsT great) rfl ?_
  walk_at "go"
  obtain ⟨v, k, hv, hk, eg⟩ := ints_get (xs := great) ha0 (by rw [h.len]; exact ha1)
  have hv0 : 0 ≤ v := h.nn v (List.mem_of_getElem? hv)
  refine w1 eg ⟨rfl, ?_⟩
  walk_at "go"
  refine w1 rfl ⟨_, rfl, ?_⟩
  by_cases hpos : 0 < v
  · rw [if_pos (by simpa using hpos)]
    walk_at "go"
    refine w1 (oDiv_pos h0 h1) ⟨⟨_, rfl⟩, ?_⟩
    walk_at "go"
    have hkl : k < great.length := (List.getElem?_eq_some_iff.mp hv).1
    refine ⟨.lst [intsT cells, intsT great, .int (c + 1)], intsT great, rfl, rfl, ?_⟩
    walk_at "go"
    refine ⟨intsT (great.set k (v / many)), .lst [intsT cells, intsT (great.set k (v / many)), .int (c + 1)], ?_, rfl, ?_⟩
    · show (setL (great.map T.int) (.int at_) (.int (v / many))).map T.lst = _
      rw [hk]
      show ((pyIx (great.map T.int).length (k : Int)).map fun j => (great.map T.int).set j (.int (v / many))).map T.lst = _
      rw [pyIx_nat (by rw [List.length_map]; exact hkl)]
      show some (T.lst ((great.map T.int).set k (T.int (v / many)))) = some (T.lst ((great.set k (v / many)).map T.int))
      rw [List.map_set]
    walk_at "go"
    refine w1 rfl ?_
    walk_at "go"
    refine w1 (oMod_pos h0) ⟨_, _, rfl, Int.emod_nonneg _ (by omega), Int.emod_lt_of_pos _ h0, rfl, ⟨by rw [List.length_set]; exact h.len, h.pos, fun g hg => ?_, by have := h.c0; omega⟩⟩
    rcases List.mem_or_eq_of_mem_set hg with hg | hg
    · exact h.nn g hg
    · rw [hg]; exact Int.ediv_nonneg hv0 (by omega)
  · rw [if_neg (by simpa using hpos)]
    obtain ⟨v2, k2, hv2, hk2, eg2⟩ := ints_get (xs := cells) ha0 ha1
    walk_at "go"
    refine w1 (a := intsT cells) rfl ?_
    walk_at "go"
    refine w1 eg2 ?_
    walk_at "go"
    refine w1 rfl ?_
    walk_at "go"
    refine w1 (oMod_pos (by omega)) ?_
    walk_at "go"
    refine w1 (a := .int (c + 1)) rfl (w1 (oMul_l (by omega)) (w1 rfl ?_))
    walk_at "go"
    refine w1 rfl ?_
    generalize v2 % 2147483629 + 7919 * (c + 1) + 1 = n1
    walk_at "go"
    refine w1 (oMul_r (by omega)) ?_
    walk_at "go"
    refine w1 rfl ?_
    walk_at "go"
    refine w1 (oMod_pos (by omega)) ?_
    have b1 := Int.emod_lt_of_pos (n1 * 48271) (show (0 : Int) < 2147483647 by omega)
    have b2 := Int.emod_nonneg (n1 * 48271) (show (2147483647 : Int) ≠ 0 by omega)
    generalize n1 * 48271 % 2147483647 = n2 at b1 b2
    walk_at "go"
    refine w1 (oDiv_pos (by omega) (by omega)) ?_
    walk_at "go"
    refine w1 rfl (w1 (oMul_l (by omega)) ?_)
    walk_at "go"
    refine w1 rfl ?_
    walk_at "go"
    refine w1 (oMod_pos (by omega)) ?_
    generalize hn3 : n2 * (n2 / 1009 + 69621) % 2147483647 = n3
    have b3 : n3 < 2147483647 := by rw [← hn3]; exact Int.emod_lt_of_pos _ (by omega)
    have b4 : 0 ≤ n3 := by rw [← hn3]; exact Int.emod_nonneg _ (by omega)
    walk_at "go"
    refine w1 (oDiv_pos (by omega) (by omega)) ?_
    walk_at "go"
    refine w1 rfl (w1 (oMul_l (by omega)) ?_)
    walk_at "go"
    refine w1 rfl ?_
    walk_at "go"
    refine w1 (oMod_pos (by omega)) ?_
    walk_at "go"
    refine w1 (oDiv_pos (by omega) (by omega)) ?_
    walk_at "go"
    refine w1 rfl ?_
    walk_at "go"
    exact w1 (oMod_pos h0) ⟨_, great, rfl, Int.emod_nonneg _ (by omega), Int.emod_lt_of_pos _ h0, rfl, ⟨h.len, h.pos, h.nn, by have := h.c0; omega⟩⟩
theorem imms_ints : ∀ xs : List Int, imms (xs.map T.int) = true
  | [] => rfl
  | x :: xs => by show (true && imms (xs.map T.int)) = true; rw [imms_ints xs]; rfl
theorem cut_take {xs : List T} {n : Nat} : cut xs none (some (n : Int)) = xs.take n := by
  unfold cut ixS
  simp only [show ¬ ((n : Int) < 0) by omega, if_false, List.drop_zero, Nat.sub_zero, Int.toNat_natCast]
  rw [← List.take_eq_take_min]
theorem szL_63 : (63 : Nat) < szL := by decide
theorem purse_ok (ns : List Int) : Fok f__law_purse [.lst (ns.map .int)] fun w _ => ∃ cells great, w = purseT cells great 0 ∧ Good cells great 0 := by
  refine fok_at (τ0 := [some _, none, none, none, none]) rfl ?_
  unfold st__law_purse
  walk_at "go"
  refine ok_sLc ?_
  walk_at "go"
  refine ⟨63, rfl, _, rfl, ?_⟩
  have ec : cut (ns.map T.int) none (some 63) = (ns.take 63).map T.int := (cut_take (xs := ns.map T.int) (n := 63)).trans (by rw [List.map_take])
  rw [ec]
  refine ⟨imms_ints _, ?_⟩
  generalize hcs : ns.take 63 = cs
  have hl : cs.length ≤ 63 := by rw [← hcs, List.length_take]; omega
  walk_at "go"
  refine ⟨_, rfl, ?_⟩
  refine ok_lcM (fun rest acc τ => ∃ done r : List Int, rest = r.map .int ∧ done ++ r = cs ∧ acc = done.map .int ∧ τ = [some (.lst (ns.map .int)), none, none, none, none]) ?_ ?_ _ _ _ ⟨[], cs, rfl, rfl, rfl, rfl⟩
  · rintro x r acc τ ⟨done, r', e1, e2, rfl, rfl⟩
    cases r' with
    | nil => cases e1
    | cons y r' =>
      cases e1
      refine ok_put (ok_noE (ok_pure ?_))
      rw [if_pos rfl]
      refine ok_noE ?_
      walk_at "go"
      refine w1 rfl ⟨?_, done ++ [y], r', rfl, by rw [← e2]; simp, by simp, rfl⟩
      have : done.length ≤ cs.length := by rw [← e2]; simp
      rw [List.length_map]
      have := szL_63
      omega
  · rintro acc τ ⟨done, r, e1, e2, rfl, rfl⟩
    cases r with
    | cons _ _ => cases e1
    | nil =>
    rw [List.append_nil] at e2
    subst e2
    walk_at "go"
    refine w1 rfl ?_
    walk_at "go"
    refine w1 rfl ⟨_, rfl, ?_⟩
    -- cells, not empty
    have key : ∀ cells : List Int, 0 < cells.length → cells.length ≤ 63 → Ok (sLcO [4] 1 (put 4) (noE (M.pure true)) (noE (fnA fAbs (consA (TL.get 4) nilA)))) [some (.lst (ns.map .int)), some (intsT cells), none, none, none] fun w τ1 => Ok
        (sSeq (forS (rng1 (consA (fnA fLen (consA (TL.get 2) nilA)) nilA)) (put 3)
        (sIf (tst (op2 oLt (op2 oGet (TL.get 2) (TL.get 3)) (op2 oPow (con (.int 10)) (con (.int 18)))))
        (sSetI 2 (con (.int 0)) (TL.get 3))
        sNx))
        (sRet (fnA oLst (consA (mv 1) (consA (mv 2) (consA (toS (con (.int 0))) nilA)))))) (List.set τ1 2 (some w)) fun c τ => match c with
          | .nx => ∃ cells great, T.non = purseT cells great 0 ∧ Good cells great 0
          | .rt w => ∃ cells great, w = purseT cells great 0 ∧ Good cells great 0
          | _ => False := by
      intro cells hc0 hc1
      refine ok_sLcO rfl ?_
      refine ok_lcO (cells.map T.int) (fun k acc τ => ∃ done : List Int, done.length = k ∧ (∀ g ∈ done, 0 ≤ g) ∧ acc = done.map .int ∧ τ = [some (.lst (ns.map .int)), some (intsT cells), none, none, none]) ?_ ?_ ?_ _ _ _ _ (Nat.zero_le _) (by omega) ⟨[], rfl, by simp, rfl, rfl⟩
      · rintro k acc τ ⟨done, _, _, _, rfl⟩; rfl
      · rintro k x acc τ hx ⟨done, e1, e2, rfl, rfl⟩
        rw [List.getElem?_map] at hx
        cases hy : cells[k]? with
        | none => rw [hy] at hx; cases hx
        | some y =>
          rw [hy] at hx; cases hx
          have hk : k < cells.length := (List.getElem?_eq_some_iff.mp hy).1
          refine ⟨rfl, ok_put (ok_noE (ok_pure ?_))⟩
          rw [if_pos rfl]
          refine ok_noE ?_
          walk_at "go"
          refine w1 rfl ⟨?_, done ++ [if y < 0 then -y else y], by simp [e1], ?_, by simp, rfl⟩
          · rw [List.length_map]
            have := szL_63
            omega
          · intro g hg
            rcases List.mem_append.mp hg with hg | hg
            · exact e2 g hg
            · rw [List.mem_singleton.mp hg]; split <;> omega
      · rintro acc τ ⟨great0, e1, e2, rfl, rfl⟩
        rw [List.length_map] at e1
        walk_at "go"
        refine w1 rfl ?_
        walk_at "go"
        refine ⟨intsL 0 great0.length, ?_, ?_⟩
        · rw [List.length_map]; exact fRange1_nat (by omega)
        refine ok_sFor (fun rest τ => ∃ (j : Nat) (great : List Int) (z : Option T), rest = (List.range' j (cells.length - j)).map (fun i : Nat => T.int (i : Int)) ∧ j ≤ cells.length ∧ great.length = cells.length ∧ (∀ g ∈ great, 0 ≤ g) ∧ τ = [some (.lst (ns.map .int)), some (intsT cells), some (intsT great), z, none]) ?_ ?_ _ _ ⟨0, great0, none, ?_, Nat.zero_le _, e1, e2, rfl⟩
        · rintro x r τ ⟨j, great, z, e3, hj, e4, e5, rfl⟩
          have hjl : j < cells.length := by
            rcases Nat.lt_or_ge j cells.length with h | h
            · exact h
            · rw [Nat.sub_eq_zero_of_le h] at e3; cases e3
          obtain ⟨d, hd⟩ : ∃ d, cells.length - j = d + 1 := ⟨cells.length - j - 1, by omega⟩
          rw [hd, List.range'_succ, List.map_cons] at e3
          cases e3
          obtain ⟨v, k, hv, hk, eg⟩ := ints_get (xs := great) (i := (j : Int)) (by omega) (by rw [e4]; omega)
          refine ok_put ?_
          walk_at "go"
          refine w1 eg ?_
          walk_at "go"
          refine w1 (a := .int (10 ^ 18)) rfl (w1 rfl ⟨_, rfl, ?_⟩)
          by_cases hlt : v < 10 ^ 18
          · rw [if_pos (by simpa using hlt)]
            walk_at "go"
            refine ⟨⟨_, rfl⟩, ?_⟩
            walk_at "go"
            refine ⟨intsT great, intsT (great.set j 0), rfl, ?_, j + 1, great.set j 0, _, ?_, by omega, by rw [List.length_set]; exact e4, ?_, rfl⟩
            · show (setL (great.map T.int) (.int (j : Int)) (.int 0)).map T.lst = _
              show ((pyIx (great.map T.int).length (j : Int)).map fun j => (great.map T.int).set j (.int 0)).map T.lst = _
              rw [pyIx_nat (by rw [List.length_map]; omega)]
              show some (T.lst ((great.map T.int).set j (T.int 0))) = some (T.lst ((great.set j 0).map T.int))
              rw [List.map_set]
            · rw [show cells.length - (j + 1) = d by omega]
            · intro g hg
              rcases List.mem_or_eq_of_mem_set hg with hg | hg
              · exact e5 g hg
              · omega
          · rw [if_neg (by simpa using hlt)]
            walk_at "go"
            exact ⟨j + 1, great, _, by rw [show cells.length - (j + 1) = d by omega], by omega, e4, e5, rfl⟩
        · rintro τ ⟨j, great, z, e3, hj, e4, e5, rfl⟩
          walk_at "go"
          refine ⟨rfl, ?_⟩
          walk_at "go"
          exact w1 rfl ⟨cells, great, rfl, e4, hc0, e5, by omega⟩
        · rw [e1]
          unfold intsL
          rw [List.range_eq_range', Nat.sub_zero]
          exact List.map_congr_left fun i _ => by simp
    cases hcl : done with
    | nil =>
      rw [if_pos (by rfl)]
      walk_at "go"
      refine w1 (a := intsT [0]) rfl ?_
      walk_at "go"
      exact key [0] (by simp) (by simp)
    | cons a b =>
      rw [if_neg (by simp [tEq]; omega)]
      walk_at "go"
      rw [hcl] at hl
      exact key (a :: b) (by simp) hl
abbrev abcS : Str := PySem.Str.ofString "abcdefghijklmnopqrstuvwxyz"
theorem abc_list : abcS.cps.toList = List.range' 97 26 := by decide +kernel
structure NameOk (z : Str) : Prop where
  lo : 1 ≤ z.cps.toList.length
  hi : z.cps.toList.length ≤ 8
  abc : ∀ c ∈ z.cps.toList, 97 ≤ c ∧ c < 123
theorem abc_get {i : Int} (h0 : 0 ≤ i) (h1 : i < 26) : ∃ c : Nat, 97 ≤ c ∧ c < 123 ∧ oGet (.str abcS) (.int i) = some (.str ⟨#[c]⟩) := by
  obtain ⟨k, rfl⟩ : ∃ k : Nat, i = k := ⟨i.toNat, by omega⟩
  have hk : k < 26 := by omega
  refine ⟨97 + k, by omega, by omega, ?_⟩
  show (if abcS.length ≤ szL then (pyAt abcS.cps.toList (k : Int)).map fun c => T.str ⟨#[c]⟩ else none) = _
  rw [if_pos (by decide +kernel), abc_list, pyAt_nat (x := 97 + k) (by rw [List.getElem?_range' (by omega)]; simp)]
  rfl
theorem add_str {x y : Str} (h : x.length + y.length ≤ szL) : oAdd (.str x) (.str y) = some (.str (x ++ y)) := by
  show (if x.length + y.length ≤ szL then some (T.str (x ++ y)) else none) = _
  rw [if_pos h]
theorem app_list (x y : Str) : (x ++ y).cps.toList = x.cps.toList ++ y.cps.toList := by
  show (x.cps ++ y.cps).toList = _
  rw [Array.toList_append]
theorem intsL_range (m : Nat) : intsL 0 m = (List.range' 0 m).map (fun i : Nat => T.int (i : Int)) := by
  unfold intsL
  rw [List.range_eq_range']
  exact List.map_congr_left fun i _ => by simp
theorem name_ok {cells great : List Int} {c : Int} (h : Good cells great c) :
    Fok f__law_name [purseT cells great c] fun w ps => ∃ z great' c', w = .str z ∧ NameOk z ∧ ps = [some (purseT cells great' c')] ∧ Good cells great' c' := by
  refine fok_at (τ0 := [some _, none, none]) rfl ?_
  unfold st__law_name
  walk_at "go"
  refine ⟨_, rfl, fok_imp (draw_ok h (many := 8) (by omega) (by omega)) ?_⟩
  rintro _ _ ⟨r, g1, rfl, hr0, hr1, rfl, hg1⟩
  refine ⟨_, rfl, ?_⟩
  walk_at "go"
  refine w1 rfl ?_
  walk_at "go"
  obtain ⟨m, hm⟩ : ∃ m : Nat, 1 + r = m := ⟨(1 + r).toNat, by omega⟩
  rw [hm]
  refine ⟨_, fRange1_nat (by omega), ?_⟩
  rw [intsL_range]
  refine ok_sFor (fun rest τ => ∃ (j : Nat) (z : Str) (great : List Int) (c : Int) (y : Option T), rest = (List.range' j (m - j)).map (fun i : Nat => T.int (i : Int)) ∧ j ≤ m ∧ z.cps.toList.length = j ∧ (∀ c ∈ z.cps.toList, 97 ≤ c ∧ c < 123) ∧ Good cells great c ∧ τ = [some (purseT cells great c), some (.str z), y]) ?_ ?_ _ _ ⟨0, ⟨#[]⟩, g1, c + 1, none, rfl, Nat.zero_le _, rfl, by simp, hg1, rfl⟩
  · rintro x rest τ ⟨j, z, g2, c2, y, e1, hj, e2, e3, hg2, rfl⟩
    have hjl : j < m := by
      rcases Nat.lt_or_ge j m with h | h
      · exact h
      · rw [Nat.sub_eq_zero_of_le h] at e1; cases e1
    obtain ⟨d, hd⟩ : ∃ d, m - j = d + 1 := ⟨m - j - 1, by omega⟩
    rw [hd, List.range'_succ, List.map_cons] at e1
    cases e1
    refine ok_put ?_
    walk_at "go"
    refine ⟨_, rfl, fok_imp (draw_ok hg2 (many := 26) (by omega) (by omega)) ?_⟩
    rintro _ _ ⟨r2, g3, rfl, hs0, hs1, rfl, hg3⟩
    refine ⟨_, rfl, ?_⟩
    obtain ⟨a, ha0, ha1, ea⟩ := abc_get hs0 hs1
    have hsz : (100 : Nat) < szL := by decide
    refine w1 ea (w1 (add_str ?_) ?_)
    · show z.cps.size + 1 ≤ szL
      have : z.cps.size = j := by rw [← Array.length_toList]; exact e2
      omega
    walk_at "go"
    refine ⟨j + 1, z ++ ⟨#[a]⟩, g3, c2 + 1, _, by rw [show m - (j + 1) = d by omega], by omega, by rw [app_list, List.length_append, e2]; rfl, ?_, hg3, rfl⟩
    intro b hb
    rw [app_list] at hb
    rcases List.mem_append.mp hb with hb | hb
    · exact e3 b hb
    · simp at hb; subst hb; exact ⟨ha0, ha1⟩
  · rintro τ ⟨j, z, g2, c2, y, e1, hj, e2, e3, hg2, rfl⟩
    have ejm : j = m := by
      rcases Nat.lt_or_ge j m with h | h
      · obtain ⟨d, hd⟩ : ∃ d, m - j = d + 1 := ⟨m - j - 1, by omega⟩
        rw [hd, List.range'_succ] at e1; cases e1
      · omega
    walk_at "go"
    exact ⟨z, g2, c2, rfl, ⟨by omega, by omega, e3⟩, rfl, hg2⟩
def strsT (zs : List Str) : T := .lst (zs.map .str)
theorem all_scal : ∀ zs : List Str, (zs.map T.str).all isScal = true
  | [] => rfl
  | z :: zs => by simp only [List.map_cons, List.all_cons, all_scal zs]; rfl
theorem any_str (z : Str) : ∀ zs : List Str, ((zs.map T.str).any fun y => tEq y (.str z)) = decide (z ∈ zs)
  | [] => by simp
  | y :: zs => by
    simp only [List.map_cons, List.any_cons, any_str z zs]
    show ((y == z) || decide (z ∈ zs)) = decide (z ∈ y :: zs)
    by_cases h : y = z
    · subst h; simp
    · have h2 : ¬ z = y := fun e => h e.symm
      simp [h, h2]
theorem inB_strs (z : Str) (zs : List Str) : inB (.str z) (strsT zs) = some (decide (z ∈ zs)) := by
  show (if isScal (.str z) = true ∧ (zs.map T.str).all isScal = true then some ((zs.map T.str).any fun y => tEq y (.str z)) else none) = _
  rw [if_pos ⟨rfl, all_scal zs⟩, any_str]
theorem in_strs (z : Str) (zs : List Str) : oIn (.str z) (strsT zs) = some (.bl (decide (z ∈ zs))) := by
  unfold oIn; rw [inB_strs]; rfl
theorem notIn_strs (z : Str) (zs : List Str) : oNotIn (.str z) (strsT zs) = some (.bl (!decide (z ∈ zs))) := by
  unfold oNotIn; rw [inB_strs]; rfl
def plainS : List Str := ["a", "b", "c", "d", "e", "f", "g", "h", "i", "j"].map PySem.Str.ofString
theorem plain_nd : plainS.Nodup := by decide +kernel
theorem plain_ok : ∀ z ∈ plainS, NameOk z := by
  have : plainS.all (fun z => decide (1 ≤ z.cps.toList.length) && decide (z.cps.toList.length ≤ 8) && z.cps.toList.all fun c => decide (97 ≤ c) && decide (c < 123)) = true := by decide +kernel
  intro z hz
  have h := List.all_eq_true.mp this z hz
  simp only [Bool.and_eq_true, decide_eq_true_eq, List.all_eq_true] at h
  exact ⟨h.1.1, h.1.2, h.2⟩
theorem strs_get {zs : List Str} {i : Int} (h0 : 0 ≤ i) (h1 : i < zs.length) : ∃ z, z ∈ zs ∧ oGet (strsT zs) (.int i) = some (.str z) := by
  obtain ⟨k, rfl⟩ : ∃ k : Nat, i = k := ⟨i.toNat, by omega⟩
  have hk : k < zs.length := by omega
  exact ⟨zs[k], List.getElem_mem hk, pyAt_nat (by rw [List.getElem?_map, List.getElem?_eq_getElem hk]; rfl)⟩
theorem plain_left {zs : List Str} (h : zs.length < 10) : ∃ z r, plainS.filter (fun z => !decide (z ∈ zs)) = z :: r ∧ z ∈ plainS ∧ z ∉ zs := by
  cases e : plainS.filter (fun z => !decide (z ∈ zs)) with
  | nil =>
    exfalso
    have hs : ∀ z ∈ plainS, z ∈ zs := fun z hz => by
      have := List.filter_eq_nil_iff.mp e z hz
      simpa using this
    have := plain_nd.length_le_of_subset hs
    have h10 : plainS.length = 10 := by decide +kernel
    omega
  | cons z r =>
    have : z ∈ plainS.filter (fun z => !decide (z ∈ zs)) := by rw [e]; simp
    rw [List.mem_filter] at this
    exact ⟨z, r, rfl, this.1, by simpa using this.2⟩
theorem names_ok {cells great : List Int} {c : Int} {many : Nat} (h : Good cells great c) (hm : many ≤ 10) :
    Fok f__law_names [purseT cells great c, .int many] fun w ps => ∃ zs great' c', w = strsT zs ∧ zs.length = many ∧ zs.Nodup ∧ (∀ z ∈ zs, NameOk z) ∧ ps = [some (purseT cells great' c'), some (.int many)] ∧ Good cells great' c' := by
  refine fok_at (τ0 := [some _, some _, none, none, none, none, none, none]) rfl ?_
  unfold st__law_names
  walk_at "go"
  refine w1 (a := strsT plainS) rfl ?_
  walk_at "go"
  refine ⟨_, rfl, fok_imp (draw_ok h (many := 3) (by omega) (by omega)) ?_⟩
  rintro _ _ ⟨r, g1, rfl, hr0, hr1, rfl, hg1⟩
  refine ⟨_, rfl, ?_⟩
  walk_at "go"
  refine w1 (a := .bl (r == 0)) rfl ?_
  generalize (r == 0) = sp
  walk_at "go"
  refine w1 (a := strsT []) rfl ?_
  walk_at "go"
  refine ⟨_, fRange1_nat (by omega), ?_⟩
  rw [intsL_range]
  refine ok_sFor (fun rest τ => ∃ (j : Nat) (zs : List Str) (great : List Int) (c : Int) (y y2 : Option T), rest = (List.range' j (many - j)).map (fun i : Nat => T.int (i : Int)) ∧ j ≤ many ∧ zs.length = j ∧ zs.Nodup ∧ (∀ z ∈ zs, NameOk z) ∧ Good cells great c ∧ τ = [some (purseT cells great c), some (.int many), some (strsT plainS), some (.bl sp), some (strsT zs), y, y2, none]) ?_ ?_ _ _ ⟨0, [], g1, c + 1, none, none, rfl, Nat.zero_le _, rfl, by simp, by simp, hg1, rfl⟩
  · rintro x rest τ ⟨j, zs, g2, c2, y, y2, e1, hj, e2, nd, e3, hg2, rfl⟩
    have hjl : j < many := by
      rcases Nat.lt_or_ge j many with h | h
      · exact h
      · rw [Nat.sub_eq_zero_of_le h] at e1; cases e1
    obtain ⟨d, hd⟩ : ∃ d, many - j = d + 1 := ⟨many - j - 1, by omega⟩
    rw [hd, List.range'_succ, List.map_cons] at e1
    cases e1
    refine ok_put ?_
    walk_at "go"
    refine ⟨_, rfl, fok_imp (draw_ok hg2 (many := 10) (by omega) (by omega)) ?_⟩
    rintro _ _ ⟨r2, g3, rfl, hs0, hs1, rfl, hg3⟩
    refine ⟨_, rfl, ?_⟩
    obtain ⟨z0, hz0, ez⟩ := strs_get (zs := plainS) hs0 (by have : plainS.length = 10 := by decide +kernel
                                                            omega)
    refine w1 ez ?_
    -- behind the first choice
    have key : ∀ (z1 : Str) (g4 : List Int) (c4 : Int), NameOk z1 → Good cells g4 c4 → Ok (sSeq (sIf (tst (op2 oIn (TL.get 6) (TL.get 4)))
        (sSet 6 (op2 oGet (sLc [7] (elems (TL.get 2)) (put 7) (noE (tst (op2 oNotIn (TL.get 7) (TL.get 4)))) (noE (TL.get 7))) (con (.int 0))))
        sNx)
        (sDrop (appS 4 (TL.get 6)))) [some (purseT cells g4 c4), some (.int many), some (strsT plainS), some (.bl sp), some (strsT zs), some (.int j), some (.str z1), none] fun c τ => match c with
          | .nx => ∃ (j' : Nat) (zs : List Str) (great : List Int) (c : Int) (y y2 : Option T), (List.range' (j + 1) d).map (fun i : Nat => T.int (i : Int)) = (List.range' j' (many - j')).map (fun i : Nat => T.int (i : Int)) ∧ j' ≤ many ∧ zs.length = j' ∧ zs.Nodup ∧ (∀ z ∈ zs, NameOk z) ∧ Good cells great c ∧ τ = [some (purseT cells great c), some (.int many), some (strsT plainS), some (.bl sp), some (strsT zs), y, y2, none]
          | _ => False := by
      intro z1 g4 c4 hz1 hg4
      have fin : ∀ z2 : Str, NameOk z2 → z2 ∉ zs → Ok (sDrop (appS 4 (TL.get 6))) [some (purseT cells g4 c4), some (.int many), some (strsT plainS), some (.bl sp), some (strsT zs), some (.int j), some (.str z2), none] fun c τ => match c with
          | .nx => ∃ (j' : Nat) (zs : List Str) (great : List Int) (c : Int) (y y2 : Option T), (List.range' (j + 1) d).map (fun i : Nat => T.int (i : Int)) = (List.range' j' (many - j')).map (fun i : Nat => T.int (i : Int)) ∧ j' ≤ many ∧ zs.length = j' ∧ zs.Nodup ∧ (∀ z ∈ zs, NameOk z) ∧ Good cells great c ∧ τ = [some (purseT cells great c), some (.int many), some (strsT plainS), some (.bl sp), some (strsT zs), y, y2, none]
          | _ => False := by
        intro z2 h2 h3
        walk_at "go"
        refine ⟨⟨_, rfl⟩, ?_⟩
        walk_at "go"
        have hsz : (100 : Nat) < szL := by decide
        refine ⟨zs.map .str, rfl, by rw [List.length_map]; omega, j + 1, zs ++ [z2], g4, c4, some (.int j), some (.str z2), by rw [show many - (j + 1) = d by omega], by omega, by rw [List.length_append, e2]; rfl, ?_, ?_, hg4, by simp [strsT]⟩
        · rw [List.nodup_append]
          exact ⟨nd, by simp, fun a ha b hb e => h3 (by simp at hb; rw [← hb, ← e]; exact ha)⟩
        · intro z hz
          rcases List.mem_append.mp hz with hz | hz
          · exact e3 z hz
          · simp at hz; rw [hz]; exact h2
      walk_at "go"
      refine w1 (in_strs z1 zs) ⟨_, rfl, ?_⟩
      by_cases hin : z1 ∈ zs
      · rw [if_pos (by simpa using hin)]
        walk_at "go"
        refine ok_sLc ?_
        walk_at "go"
        refine ⟨_, rfl, ?_⟩
        obtain ⟨z2, r5, e5, hp, hn⟩ := plain_left (zs := zs) (by omega)
        refine ok_lcM (fun rest acc τ => ∃ done r : List Str, rest = r.map .str ∧ done ++ r = plainS ∧ acc = (done.filter fun z => !decide (z ∈ zs)).map .str ∧ τ = [some (purseT cells g4 c4), some (.int many), some (strsT plainS), some (.bl sp), some (strsT zs), some (.int j), some (.str z1), none]) ?_ ?_ _ _ _ ⟨[], plainS, rfl, rfl, rfl, rfl⟩
        · rintro x rest acc τ ⟨done, r, e6, e7, rfl, rfl⟩
          cases r with
          | nil => cases e6
          | cons z r =>
            cases e6
            refine ok_put (ok_noE ?_)
            walk_at "go"
            refine w1 (notIn_strs z zs) ⟨_, rfl, ?_⟩
            have e8 : (done ++ [z]) ++ r = plainS := by rw [← e7]; simp
            by_cases hz : z ∈ zs
            · rw [if_neg (by simpa using hz)]
              exact ⟨done ++ [z], r, rfl, e8, by simp [List.filter_append, hz], rfl⟩
            · rw [if_pos (by simpa using hz)]
              refine ok_noE ?_
              walk_at "go"
              refine ⟨?_, done ++ [z], r, rfl, e8, by simp [List.filter_append, hz], rfl⟩
              rw [List.length_map]
              have h1 := List.length_filter_le (fun z => !decide (z ∈ zs)) done
              have h2 : done.length ≤ plainS.length := by rw [← e7]; simp
              have h10 : plainS.length = 10 := by decide +kernel
              have hsz : (100 : Nat) < szL := by decide
              omega
        · rintro acc τ ⟨done, r, e6, e7, rfl, rfl⟩
          cases r with
          | cons _ _ => cases e6
          | nil =>
            rw [List.append_nil] at e7
            subst e7
            rw [e5]
            walk_at "go"
            refine w1 (a := .str z2) (pyAt_nat (k := 0) rfl) ?_
            exact fin z2 (plain_ok z2 hp) hn
      · rw [if_neg (by simpa using hin)]
        exact ok_nx (fin z1 hz1 hin)
    refine ok_seq (ok_if (ok_tst (ok_get rfl ⟨sp, rfl, ?_⟩)))
    by_cases hsp : sp = true
    · rw [if_pos hsp]
      refine ok_set (ok_callL (ok_cons (ok_get rfl (ok_nil ⟨_, rfl, fok_imp (name_ok hg3) ?_⟩))))
      rintro _ _ ⟨z1, g4, c4, rfl, hz1, rfl, hg4⟩
      exact ⟨_, rfl, ok_imp (key z1 g4 c4 hz1 hg4) (fun c τ h => by
        cases c with
        | nx => exact h
        | _ => exact h.elim)⟩
    · rw [if_neg hsp]
      exact ok_nx (ok_imp (key z0 g3 (c2 + 1) (plain_ok z0 hz0) hg3) (fun c τ h => by
        cases c with
        | nx => exact h
        | _ => exact h.elim))
  · rintro τ ⟨j, zs, g2, c2, y, y2, e1, hj, e2, nd, e3, hg2, rfl⟩
    have ejm : j = many := by
      rcases Nat.lt_or_ge j many with h | h
      · obtain ⟨d, hd⟩ : ∃ d, many - j = d + 1 := ⟨many - j - 1, by omega⟩
        rw [hd, List.range'_succ] at e1; cases e1
      · omega
    exact ok_ret (ok_mv rfl ⟨zs, g2, c2, rfl, by omega, nd, e3, rfl, hg2⟩)
end
end
section
local macro_rules | `(tactic| walk_at "g1") => `(tactic| first
  | ((with_reducible refine okGc ?_); (first | with_reducible refine ok_seq ?_ | with_reducible refine ok_set ?_ | with_reducible refine ok_ret ?_ | with_reducible refine ok_drop ?_ | with_reducible refine ok_if ?_ | with_reducible refine ok_nx ?_ | with_reducible refine ok_sSetL ?_ | with_reducible refine ok_sSetI ?_ | with_reducible refine ok_sSet2 ?_ | with_reducible refine ok_sFldM ?_ | with_reducible refine ok_for ?_ | with_reducible refine ok_noE ?_))
  | ((with_reducible refine okGt ?_); (first | with_reducible refine ok_get rfl ?_ | with_reducible refine ok_con ?_ | with_reducible refine ok_op2 ?_ | with_reducible refine ok_fnA ?_ | with_reducible refine ok_toI ?_ | with_reducible refine ok_callA ?_ | with_reducible refine ok_callL ?_ | with_reducible refine ok_op1 ?_ | with_reducible refine ok_mv rfl ?_ | with_reducible refine ok_newA ?_ | with_reducible refine ok_newI ?_ | with_reducible refine ok_toS ?_ | with_reducible refine ok_isa ?_ | with_reducible refine ok_isaI ?_ | with_reducible refine ok_isaO ?_ | with_reducible refine ok_fld ?_ | with_reducible refine ok_chain ?_ | with_reducible refine ok_andM ?_ | with_reducible refine ok_orM ?_ | with_reducible refine ok_notM ?_ | with_reducible refine ok_makeA ?_ | with_reducible refine ok_cutN ?_ | with_reducible refine ok_cutI ?_ | with_reducible refine ok_get1D ?_ | with_reducible refine ok_ifE ?_ | with_reducible refine ok_appS ?_ | with_reducible refine ok_sLc ?_ | with_reducible refine ok_sDc ?_ | with_reducible refine ok_clearM ?_ | with_reducible refine ok_sApp2 ?_ | with_reducible refine ok_sClear2 ?_ | with_reducible refine ok_noE ?_))
  | ((with_reducible refine okGl ?_); (first | with_reducible refine ok_cons ?_ | with_reducible refine ok_nil ?_ | with_reducible refine ok_elems ?_ | with_reducible refine ok_selfA ?_ | with_reducible refine ok_propA ?_ | with_reducible refine ok_rng1 ?_ | with_reducible refine ok_rng2 ?_ | with_reducible refine ok_enum ?_ | with_reducible refine ok_starM ?_ | with_reducible refine ok_noE ?_))
  | ((with_reducible refine okGb ?_); (first | with_reducible refine ok_tst ?_ | with_reducible refine ok_andT ?_ | with_reducible refine ok_orT ?_ | with_reducible refine ok_notT ?_ | with_reducible refine ok_truT ?_ | with_reducible refine ok_noE ?_))
  | ((with_reducible refine okGo ?_); (first | with_reducible refine ok_noPart ?_ | with_reducible refine ok_part ?_))
  | simp only [List.set_cons_zero, List.set_cons_succ]
  | dsimp only)
local macro_rules | `(tactic| walk_at "go") => `(tactic| repeat (first
  | ((with_reducible refine okGc ?_); (first | with_reducible refine ok_seq ?_ | with_reducible refine ok_set ?_ | with_reducible refine ok_ret ?_ | with_reducible refine ok_drop ?_ | with_reducible refine ok_if ?_ | with_reducible refine ok_nx ?_ | with_reducible refine ok_sSetL ?_ | with_reducible refine ok_sSetI ?_ | with_reducible refine ok_sSet2 ?_ | with_reducible refine ok_sFldM ?_ | with_reducible refine ok_for ?_ | with_reducible refine ok_noE ?_))
  | ((with_reducible refine okGt ?_); (first | with_reducible refine ok_get rfl ?_ | with_reducible refine ok_con ?_ | with_reducible refine ok_op2 ?_ | with_reducible refine ok_fnA ?_ | with_reducible refine ok_toI ?_ | with_reducible refine ok_callA ?_ | with_reducible refine ok_callL ?_ | with_reducible refine ok_op1 ?_ | with_reducible refine ok_mv rfl ?_ | with_reducible refine ok_newA ?_ | with_reducible refine ok_newI ?_ | with_reducible refine ok_toS ?_ | with_reducible refine ok_isa ?_ | with_reducible refine ok_isaI ?_ | with_reducible refine ok_isaO ?_ | with_reducible refine ok_fld ?_ | with_reducible refine ok_chain ?_ | with_reducible refine ok_andM ?_ | with_reducible refine ok_orM ?_ | with_reducible refine ok_notM ?_ | with_reducible refine ok_makeA ?_ | with_reducible refine ok_cutN ?_ | with_reducible refine ok_cutI ?_ | with_reducible refine ok_get1D ?_ | with_reducible refine ok_ifE ?_ | with_reducible refine ok_appS ?_ | with_reducible refine ok_sLc ?_ | with_reducible refine ok_sDc ?_ | with_reducible refine ok_clearM ?_ | with_reducible refine ok_sApp2 ?_ | with_reducible refine ok_sClear2 ?_ | with_reducible refine ok_noE ?_))
  | ((with_reducible refine okGl ?_); (first | with_reducible refine ok_cons ?_ | with_reducible refine ok_nil ?_ | with_reducible refine ok_elems ?_ | with_reducible refine ok_selfA ?_ | with_reducible refine ok_propA ?_ | with_reducible refine ok_rng1 ?_ | with_reducible refine ok_rng2 ?_ | with_reducible refine ok_enum ?_ | with_reducible refine ok_starM ?_ | with_reducible refine ok_noE ?_))
  | ((with_reducible refine okGb ?_); (first | with_reducible refine ok_tst ?_ | with_reducible refine ok_andT ?_ | with_reducible refine ok_orT ?_ | with_reducible refine ok_notT ?_ | with_reducible refine ok_truT ?_ | with_reducible refine ok_noE ?_))
  | ((with_reducible refine okGo ?_); (first | with_reducible refine ok_noPart ?_ | with_reducible refine ok_part ?_))
  | simp only [List.set_cons_zero, List.set_cons_succ]
  | dsimp only))
section
abbrev Mv := (Str × Str) × Str
def keyT (k : Str × Str) : T := .tup [.str k.1, .str k.2]
def entT (e : Mv) : T × T := (keyT e.1, .str e.2)
def movesT (ms : List Mv) : T := .dct (ms.map entT)
theorem key_eq (k l : Str × Str) : tEq (keyT k) (keyT l) = decide (k = l) := by
  obtain ⟨a, b⟩ := k
  obtain ⟨c, d⟩ := l
  show ((a == c) && ((b == d) && true)) = decide ((a, b) = (c, d))
  by_cases h1 : a = c <;> by_cases h2 : b = d <;> simp [h1, h2]
theorem ask_moves (ms : List Mv) (k : Str × Str) : askOk (ms.map entT) (keyT k) = true := by
  unfold askOk
  simp only [Bool.and_eq_true, List.all_eq_true, decide_eq_true_eq]
  refine ⟨⟨⟨rfl, by show (1 : Nat) ≤ 8; omega⟩, by show (0 : Nat) ≤ 1; omega⟩, fun e he => ?_⟩
  obtain ⟨m, _, rfl⟩ := List.mem_map.mp he
  exact ⟨rfl, by show (1 : Nat) ≤ 8; omega⟩
def lookM (ms : List Mv) (k : Str × Str) : Option Str := (ms.find? fun e => decide (e.1 = k)).map (·.2)
theorem look_moves (k : Str × Str) : ∀ ms : List Mv, look (ms.map entT) (keyT k) = (lookM ms k).map .str
  | [] => rfl
  | e :: ms => by
    have ih := look_moves k ms
    unfold look lookM at ih ⊢
    simp only [List.map_cons, List.find?_cons]
    have : tEq (entT e).1 (keyT k) = decide (e.1 = k) := key_eq e.1 k
    rw [this]
    cases decide (e.1 = k) with
    | true => rfl
    | false => exact ih
theorem key_fst (k : Str × Str) : oGet (keyT k) (.int 0) = some (.str k.1) := rfl
theorem key_snd (k : Str × Str) : oGet (keyT k) (.int 1) = some (.str k.2) := rfl
theorem elems_moves (ms : List Mv) : oElems (movesT ms) = some (ms.map fun e => keyT e.1) := by
  show some ((ms.map entT).map (·.1)) = _
  rw [List.map_map]; rfl
/-- a way along the moves -/
inductive Way (ms : List Mv) : Str → Str → Prop where
  | refl (s : Str) : Way ms s s
  | step {s : Str} {e : Mv} (h : Way ms s e.1.1) (he : e ∈ ms) : Way ms s e.2
end
section
theorem imms_strs : ∀ xs : List Str, imms (xs.map T.str) = true
  | [] => rfl
  | x :: xs => by show (true && imms (xs.map T.str)) = true; rw [imms_strs xs]; rfl
theorem eq_strs (a b : Str) : oEq (.str a) (.str b) = some (.bl (decide (a = b))) := by
  show some (T.bl (a == b)) = _
  by_cases h : a = b <;> simp [h]
end
section
theorem is_name_ok {z : Str} (h : NameOk z) : Fok f_is_name [.str z] fun w _ => w = .bl true := by
  refine fok_at (τ0 := [some _, none]) rfl ?_
  unfold st_is_name
  have hlo := h.lo
  have hhi := h.hi
  have hz : z.length = z.cps.toList.length := rfl
  have hsz : (100 : Nat) < szL := by decide
  walk_at "go"
  refine w1 rfl ⟨_, rfl, ?_⟩
  rw [if_neg (by decide)]
  walk_at "go"
  refine ⟨.int z.length, ?_, true, ?_, ?_⟩
  · show (if z.length ≤ szL then some (T.int z.length) else none) = _
    rw [if_pos (by omega)]
  · show some (T.bl (decide ((1 : Int) ≤ z.length))) = _
    rw [decide_eq_true (by omega)]
  rw [if_pos rfl]
  walk_at "go"
  refine w1 (a := .bl true) ?_ ⟨_, rfl, ?_⟩
  · show some (T.bl (decide ((z.length : Int) ≤ 8))) = _
    rw [decide_eq_true (by omega)]
  rw [if_neg (by decide)]
  walk_at "go"
  refine ⟨_, rfl, ?_⟩
  refine ok_sFor (fun rest τ => ∃ (r : List Nat) (y : Option T), rest = r.map (fun c => T.str ⟨#[c]⟩) ∧ (∀ c ∈ r, 97 ≤ c ∧ c < 123) ∧ τ = [some (.str z), y]) ?_ ?_ _ _ ⟨z.cps.toList, none, rfl, h.abc, rfl⟩
  · rintro x rest τ ⟨r, y, e1, e2, rfl⟩
    cases r with
    | nil => cases e1
    | cons c r =>
      cases e1
      refine ok_put ?_
      walk_at "go"
      refine w1 (a := .bl false) ?_ ⟨_, rfl, ?_⟩
      · show (some (decide (c ∈ abcS.cps.toList))).map (fun b => T.bl (!b)) = _
        have : c ∈ abcS.cps.toList := by
          rw [abc_list, List.mem_range'_1]
          have := e2 c (by simp)
          omega
        rw [decide_eq_true this]; rfl
      rw [if_neg (by decide)]
      walk_at "go"
      exact ⟨r, _, rfl, fun c hc => e2 c (by simp [hc]), rfl⟩
  · rintro τ ⟨r, y, e1, e2, rfl⟩
    walk_at "go"
theorem num_strs : ∀ (zs : List Str) (i : Nat), numberedF i (zs.map T.str) = (zs.zipIdx i).map fun p => T.tup [.int p.2, .str p.1]
  | [], _ => rfl
  | z :: zs, i => by
    simp only [List.map_cons, numberedF, List.zipIdx_cons, num_strs zs (i + 1)]
end
section
structure MvOk (toks : List Str) (e : Mv) : Prop where
  s : NameOk e.1.1
  t : NameOk e.1.2
  u : NameOk e.2
  m : e.1.2 ∈ toks
end
section
def partsT (toks : List Str) (start : Str) (ms : List Mv) (fins : List Str) : T := .tup [strsT toks, .str start, movesT ms, strsT fins]
end
section
/-- a machine -/
def machT (al : List Str) (o : Str) (ed : List Mv) (en pl : List Str) : T := .ins (PySem.Str.ofString "Machine") [(PySem.Str.ofString "alphabet", strsT al), (PySem.Str.ofString "origin", .str o), (PySem.Str.ofString "edges", movesT ed), (PySem.Str.ofString "ending", strsT en), (PySem.Str.ofString "places", strsT pl)]
end
section
abbrev nM : Str := PySem.Str.ofString "Machine"
end
section
theorem way_cons {ms : List Mv} {e : Mv} (he : e ∈ ms) {g : Str} (h : Way ms e.2 g) : Way ms e.1.1 g := by
  induction h with
  | refl => exact .step (.refl _) he
  | step h he' ih => exact .step ih he'
theorem way_trans {ms : List Mv} {a b c : Str} (h : Way ms a b) (h' : Way ms b c) : Way ms a c := by
  induction h' with
  | refl => exact h
  | step _ he ih => exact .step ih he
end
section
def encO : Option Str → T
  | none => .non
  | some s => .str s
def rowT (zs : List Str) : T := .tup (zs.map .str)
theorem v_p0 (a : List Str) (b : Str) (c : List Mv) (d : List Str) : oGet (partsT a b c d) (.int 0) = some (strsT a) := rfl
theorem v_p1 (a : List Str) (b : Str) (c : List Mv) (d : List Str) : oGet (partsT a b c d) (.int 1) = some (.str b) := rfl
theorem v_p2 (a : List Str) (b : Str) (c : List Mv) (d : List Str) : oGet (partsT a b c d) (.int 2) = some (movesT c) := rfl
theorem v_p3 (a : List Str) (b : Str) (c : List Mv) (d : List Str) : oGet (partsT a b c d) (.int 3) = some (strsT d) := rfl
theorem v_al (al : List Str) (o : Str) (ed : List Mv) (en pl : List Str) : oFld nM (PySem.Str.ofString "alphabet") (machT al o ed en pl) = some (strsT al) := rfl
theorem v_or (al : List Str) (o : Str) (ed : List Mv) (en pl : List Str) : oFld nM (PySem.Str.ofString "origin") (machT al o ed en pl) = some (.str o) := rfl
theorem v_ed (al : List Str) (o : Str) (ed : List Mv) (en pl : List Str) : oFld nM (PySem.Str.ofString "edges") (machT al o ed en pl) = some (movesT ed) := rfl
theorem v_en (al : List Str) (o : Str) (ed : List Mv) (en pl : List Str) : oFld nM (PySem.Str.ofString "ending") (machT al o ed en pl) = some (strsT en) := rfl
theorem v_pl (al : List Str) (o : Str) (ed : List Mv) (en pl : List Str) : oFld nM (PySem.Str.ofString "places") (machT al o ed en pl) = some (strsT pl) := rfl
theorem v_cm (al : List Str) (o : Str) (ed : List Mv) (en pl : List Str) : oCls nM (machT al o ed en pl) = some (machT al o ed en pl) := rfl
theorem v_key (a b : Str) : oTup [.str a, .str b] = some (keyT (a, b)) := rfl
theorem v_tup0 : oTup [] = some (.tup []) := rfl
theorem v_len (zs : List Str) : fLen [strsT zs] = some (.int zs.length) := by show some (T.int ((zs.map T.str).length : Nat)) = _; rw [List.length_map]
theorem v_lenT (zs : List Str) : fLen [rowT zs] = some (.int zs.length) := by show some (T.int ((zs.map T.str).length : Nat)) = _; rw [List.length_map]
theorem v_lenM (ms : List Mv) : fLen [movesT ms] = some (.int ms.length) := by show some (T.int ((ms.map entT).length : Nat)) = _; rw [List.length_map]
theorem v_lt (i j : Int) : oLt (.int i) (.int j) = some (.bl (decide (i < j))) := rfl
theorem v_le (i j : Int) : oLe (.int i) (.int j) = some (.bl (decide (i ≤ j))) := rfl
theorem v_gt (i j : Int) : oGt (.int i) (.int j) = some (.bl (decide (j < i))) := rfl
theorem v_ge (i j : Int) : oGe (.int i) (.int j) = some (.bl (decide (j ≤ i))) := rfl
theorem v_add (i j : Int) : oAdd (.int i) (.int j) = some (.int (i + j)) := rfl
theorem v_sub (i j : Int) : oSub (.int i) (.int j) = some (.int (i - j)) := rfl
theorem v_eqI (i j : Int) : oEq (.int i) (.int j) = some (.bl (decide (i = j))) := by
  show (if cmpOk (.int i) (.int j) = true then some (T.bl (tEq (.int i) (.int j))) else none) = _
  rw [if_pos (show cmpOk (.int i) (.int j) = true from rfl)]; rfl
theorem v_neI (i j : Int) : oNe (.int i) (.int j) = some (.bl (!decide (i = j))) := by
  show (if cmpOk (.int i) (.int j) = true then some (T.bl (!tEq (.int i) (.int j))) else none) = _
  rw [if_pos (show cmpOk (.int i) (.int j) = true from rfl)]; rfl
theorem v_neS (a b : Str) : oNe (.str a) (.str b) = some (.bl (!decide (a = b))) := by
  show (if cmpOk (.str a) (.str b) = true then some (T.bl (!tEq (.str a) (.str b))) else none) = _
  rw [if_pos (show cmpOk (.str a) (.str b) = true from rfl)]
  rfl
theorem v_isO (o : Option Str) : oIsN (encO o) .non = some (.bl o.isNone) := by cases o <;> rfl
theorem v_notO (o : Option Str) : oNotN (encO o) .non = some (.bl o.isSome) := by cases o <;> rfl
theorem v_isS (s : Str) : oIsN (.str s) .non = some (.bl false) := rfl
theorem v_notS (s : Str) : oNotN (.str s) .non = some (.bl true) := rfl
theorem v_isN : oIsN .non .non = some (.bl true) := rfl
theorem v_notN : oNotN .non .non = some (.bl false) := rfl
theorem v_isI (i : Int) : oIsN (.int i) .non = some (.bl false) := rfl
theorem v_notI (i : Int) : oNotN (.int i) .non = some (.bl true) := rfl
theorem v_inM (ms : List Mv) (k : Str × Str) : oIn (keyT k) (movesT ms) = some (.bl (lookM ms k).isSome) := by
  show ((if askOk (ms.map entT) (keyT k) = true then some (look (ms.map entT) (keyT k)).isSome else none).map T.bl) = _
  rw [if_pos (ask_moves ms k), look_moves]
  cases lookM ms k <;> rfl
theorem v_notInM (ms : List Mv) (k : Str × Str) : oNotIn (keyT k) (movesT ms) = some (.bl (!(lookM ms k).isSome)) := by
  show ((if askOk (ms.map entT) (keyT k) = true then some (look (ms.map entT) (keyT k)).isSome else none).map fun b => T.bl (!b)) = _
  rw [if_pos (ask_moves ms k), look_moves]
  cases lookM ms k <;> rfl
theorem ok_get1M {τ : Tau} {Q : T → Tau → Prop} {ed ek : M T} (h : Ok ed τ fun x τ1 => ∃ ms, x = movesT ms ∧ Ok ek τ1 fun k τ2 => ∃ kk, k = keyT kk ∧ Q (encO (lookM ms kk)) τ2) : Ok (get1D ed ek) τ Q := by
  refine ok_get1D (ok_imp h ?_)
  rintro x τ1 ⟨ms, rfl, h⟩
  refine ⟨_, rfl, ok_imp h ?_⟩
  rintro k τ2 ⟨kk, rfl, h⟩
  refine ⟨ask_moves ms kk, ?_⟩
  rw [look_moves]
  cases hm : lookM ms kk <;> rw [hm] at h <;> exact h
theorem v_mvs {P : List Mv → Prop} (ms : List Mv) (h : P ms) : ∃ ms', movesT ms = movesT ms' ∧ P ms' := ⟨_, rfl, h⟩
theorem v_kk {P : Str × Str → Prop} (k : Str × Str) (h : P k) : ∃ k', keyT k = keyT k' ∧ P k' := ⟨_, rfl, h⟩
def memO : Option Str → List Str → Bool
  | none, _ => false
  | some z, zs => decide (z ∈ zs)
theorem v_inO (o : Option Str) (zs : List Str) : oIn (encO o) (strsT zs) = some (.bl (memO o zs)) := by
  cases o with
  | some z => exact in_strs z zs
  | none =>
    show ((if isScal T.non = true ∧ (zs.map T.str).all isScal = true then some ((zs.map T.str).any fun y => tEq y T.non) else none).map T.bl) = _
    rw [if_pos ⟨rfl, all_scal zs⟩]
    have : ((zs.map T.str).any fun y => tEq y T.non) = false := by
      induction zs with
      | nil => rfl
      | cons z zs ih => rw [List.map_cons, List.any_cons, ih]; rfl
    rw [this]; rfl
theorem v_imS {P : Prop} {s : Str} (h : P) : imm (.str s) = true ∧ P := ⟨rfl, h⟩
theorem v_imI {P : Prop} {s : Int} (h : P) : imm (.int s) = true ∧ P := ⟨rfl, h⟩
theorem v_imN {P : Prop} (h : P) : imm .non = true ∧ P := ⟨rfl, h⟩
theorem v_imB {P : Prop} {s : Bool} (h : P) : imm (.bl s) = true ∧ P := ⟨rfl, h⟩
theorem v_imO {P : Prop} {o : Option Str} (h : P) : imm (encO o) = true ∧ P := ⟨by cases o <;> rfl, h⟩
theorem v_imK {P : Prop} {k : Str × Str} (h : P) : imm (keyT k) = true ∧ P := ⟨rfl, h⟩
theorem v_imR {P : Prop} {zs : List Str} (h : P) : imm (rowT zs) = true ∧ P := ⟨imms_strs zs, h⟩
theorem v_list (zs : List Str) : fList [strsT zs] = some (zs.map .str) := rfl
theorem v_listR (zs : List Str) : fList [rowT zs] = some (zs.map .str) := rfl
theorem v_el (zs : List Str) : oElems (strsT zs) = some (zs.map .str) := rfl
theorem v_elR (zs : List Str) : oElems (rowT zs) = some (zs.map .str) := rfl
theorem v_lst0 : oLst [] = some (strsT []) := rfl
theorem cmpOk_of {x y : T} (hx : eqOk x = true) (hy : eqOk y = true) : cmpOk x y = true := by
  unfold cmpOk; rw [hx, hy]; simp
theorem oEq_of {x y : T} (hx : eqOk x = true) (hy : eqOk y = true) : oEq x y = some (.bl (tEq x y)) := by
  unfold oEq; rw [if_pos (cmpOk_of hx hy)]
end
end
end My
end
section
set_option Elab.async false
set_option Elab.async false
set_option linter.all false
set_option autoImplicit false
set_option maxHeartbeats 1000000
set_option maxRecDepth 100000
namespace My
open PySem TL TL.Pl
section
local macro_rules | `(tactic| walk_at "g1") => `(tactic| first
  | ((with_reducible refine okGc ?_); (first | with_reducible refine ok_seq ?_ | with_reducible refine ok_set ?_ | with_reducible refine ok_ret ?_ | with_reducible refine ok_drop ?_ | with_reducible refine ok_if ?_ | with_reducible refine ok_nx ?_ | with_reducible refine ok_sSetL ?_ | with_reducible refine ok_sSetI ?_ | with_reducible refine ok_sSet2 ?_ | with_reducible refine ok_sFldM ?_ | with_reducible refine ok_unp ?_ | with_reducible refine ok_only ?_ | with_reducible refine ok_must ?_ | with_reducible refine ok_for ?_ | with_reducible refine ok_noE ?_))
  | ((with_reducible refine okGt ?_); (first | with_reducible refine ok_get rfl ?_ | with_reducible refine ok_con ?_ | with_reducible refine ok_op2 ?_ | with_reducible refine ok_fnA ?_ | with_reducible refine ok_toI ?_ | with_reducible refine ok_callA ?_ | with_reducible refine ok_callL ?_ | with_reducible refine ok_op1 ?_ | with_reducible refine ok_mv rfl ?_ | with_reducible refine ok_newA ?_ | with_reducible refine ok_newI ?_ | with_reducible refine ok_toS ?_ | with_reducible refine ok_isa ?_ | with_reducible refine ok_isaI ?_ | with_reducible refine ok_isaO ?_ | with_reducible refine ok_fld ?_ | with_reducible refine ok_chain ?_ | with_reducible refine ok_andM ?_ | with_reducible refine ok_orM ?_ | with_reducible refine ok_notM ?_ | with_reducible refine ok_makeA ?_ | with_reducible refine ok_cutN ?_ | with_reducible refine ok_cutI ?_ | with_reducible refine ok_get1M ?_ | with_reducible refine ok_ifE ?_ | with_reducible refine ok_appS ?_ | with_reducible refine ok_sLc ?_ | with_reducible refine ok_sDc ?_ | with_reducible refine ok_clearM ?_ | with_reducible refine ok_sApp2 ?_ | with_reducible refine ok_sClear2 ?_ | with_reducible refine ok_strM ?_ | with_reducible refine ok_tupA ?_ | with_reducible refine ok_catTA ?_ | with_reducible refine ok_revI ?_ | with_reducible refine ok_inO ?_ | with_reducible refine ok_ixO ?_ | with_reducible refine ok_repM ?_ | with_reducible refine ok_repTA ?_ | with_reducible refine ok_mvA ?_ | with_reducible refine ok_sAddS ?_ | with_reducible refine ok_set1M ?_ | with_reducible refine ok_noE ?_))
  | ((with_reducible refine okGl ?_); (first | with_reducible refine ok_cons ?_ | with_reducible refine ok_nil ?_ | with_reducible refine ok_elems ?_ | with_reducible refine ok_selfA ?_ | with_reducible refine ok_propA ?_ | with_reducible refine ok_rng1 ?_ | with_reducible refine ok_rng2 ?_ | with_reducible refine ok_enum ?_ | with_reducible refine ok_valsM ?_ | with_reducible refine ok_starM ?_ | with_reducible refine ok_starFM ?_ | with_reducible refine ok_noE ?_))
  | ((with_reducible refine okGb ?_); (first | with_reducible refine ok_tst ?_ | with_reducible refine ok_andT ?_ | with_reducible refine ok_orT ?_ | with_reducible refine ok_notT ?_ | with_reducible refine ok_truT ?_ | with_reducible refine ok_noE ?_))
  | ((with_reducible refine okGo ?_); (first | with_reducible refine ok_noPart ?_ | with_reducible refine ok_part ?_))
  | ((with_reducible refine okGu ?_); (first | with_reducible refine ok_putT2 ?_ | with_reducible refine ok_putT3 ?_))
  | ((with_reducible refine w1G ?_); (first | ((with_reducible refine gGet ?_); (first | with_reducible refine w1 (v_p0 _ _ _ _) ?_ | with_reducible refine w1 (v_p1 _ _ _ _) ?_ | with_reducible refine w1 (v_p2 _ _ _ _) ?_ | with_reducible refine w1 (v_p3 _ _ _ _) ?_ | with_reducible refine w1 (key_fst _) ?_ | with_reducible refine w1 (key_snd _) ?_)) | ((with_reducible refine gFld ?_); (first | with_reducible refine w1 (v_al _ _ _ _ _) ?_ | with_reducible refine w1 (v_or _ _ _ _ _) ?_ | with_reducible refine w1 (v_ed _ _ _ _ _) ?_ | with_reducible refine w1 (v_en _ _ _ _ _) ?_ | with_reducible refine w1 (v_pl _ _ _ _ _) ?_)) | ((with_reducible refine gCls ?_); (first | with_reducible refine w1 (v_cm _ _ _ _ _) ?_)) | ((with_reducible refine gTup ?_); (first | with_reducible refine w1 (v_key _ _) ?_ | with_reducible refine w1 (v_tup0) ?_)) | ((with_reducible refine gLen ?_); (first | with_reducible refine w1 (v_len _) ?_ | with_reducible refine w1 (v_lenT _) ?_ | with_reducible refine w1 (v_lenM _) ?_)) | ((with_reducible refine gLt ?_); (first | with_reducible refine w1 (v_lt _ _) ?_)) | ((with_reducible refine gLe ?_); (first | with_reducible refine w1 (v_le _ _) ?_)) | ((with_reducible refine gGt ?_); (first | with_reducible refine w1 (v_gt _ _) ?_)) | ((with_reducible refine gGe ?_); (first | with_reducible refine w1 (v_ge _ _) ?_)) | ((with_reducible refine gAdd ?_); (first | with_reducible refine w1 (v_add _ _) ?_)) | ((with_reducible refine gSub ?_); (first | with_reducible refine w1 (v_sub _ _) ?_)) | ((with_reducible refine gEq ?_); (first | with_reducible refine w1 (v_eqI _ _) ?_ | with_reducible refine w1 (eq_strs _ _) ?_)) | ((with_reducible refine gNe ?_); (first | with_reducible refine w1 (v_neI _ _) ?_ | with_reducible refine w1 (v_neS _ _) ?_)) | ((with_reducible refine gIn ?_); (first | with_reducible refine w1 (in_strs _ _) ?_ | with_reducible refine w1 (v_inM _ _) ?_ | with_reducible refine w1 (v_inO _ _) ?_)) | ((with_reducible refine gNin ?_); (first | with_reducible refine w1 (notIn_strs _ _) ?_ | with_reducible refine w1 (v_notInM _ _) ?_)) | ((with_reducible refine gIs ?_); (first | with_reducible refine w1 (v_isO _) ?_ | with_reducible refine w1 (v_isS _) ?_ | with_reducible refine w1 (v_isN) ?_ | with_reducible refine w1 (v_isI _) ?_)) | ((with_reducible refine gNis ?_); (first | with_reducible refine w1 (v_notO _) ?_ | with_reducible refine w1 (v_notS _) ?_ | with_reducible refine w1 (v_notN) ?_ | with_reducible refine w1 (v_notI _) ?_)) | ((with_reducible refine gList ?_); (first | with_reducible refine w1 (v_list _) ?_ | with_reducible refine w1 (v_listR _) ?_)) | ((with_reducible refine gEl ?_); (first | with_reducible refine w1 (v_el _) ?_ | with_reducible refine w1 (v_elR _) ?_ | with_reducible refine w1 (elems_moves _) ?_)) | ((with_reducible refine gLst ?_); (first | with_reducible refine w1 (v_lst0) ?_))))
  | ((with_reducible refine gImm ?_); (first | with_reducible refine v_imS ?_ | with_reducible refine v_imI ?_ | with_reducible refine v_imN ?_ | with_reducible refine v_imB ?_ | with_reducible refine v_imO ?_ | with_reducible refine v_imK ?_ | with_reducible refine v_imR ?_))
  | ((with_reducible refine gEx ?_); (first | with_reducible refine wb ?_ | with_reducible refine wstr ?_ | with_reducible refine v_mvs _ ?_ | with_reducible refine v_kk _ ?_))
  | ((with_reducible refine gIf ?_); (first | with_reducible refine iTrue ?_ | with_reducible refine iFalse ?_ | refine iF (show _ = false from rfl) ?_ | refine iT (show _ = true from rfl) ?_))
  | simp only [List.set_cons_zero, List.set_cons_succ]
  | dsimp only)
local macro_rules | `(tactic| walk_at "go") => `(tactic| repeat (first
  | ((with_reducible refine okGc ?_); (first | with_reducible refine ok_seq ?_ | with_reducible refine ok_set ?_ | with_reducible refine ok_ret ?_ | with_reducible refine ok_drop ?_ | with_reducible refine ok_if ?_ | with_reducible refine ok_nx ?_ | with_reducible refine ok_sSetL ?_ | with_reducible refine ok_sSetI ?_ | with_reducible refine ok_sSet2 ?_ | with_reducible refine ok_sFldM ?_ | with_reducible refine ok_unp ?_ | with_reducible refine ok_only ?_ | with_reducible refine ok_must ?_ | with_reducible refine ok_for ?_ | with_reducible refine ok_noE ?_))
  | ((with_reducible refine okGt ?_); (first | with_reducible refine ok_get rfl ?_ | with_reducible refine ok_con ?_ | with_reducible refine ok_op2 ?_ | with_reducible refine ok_fnA ?_ | with_reducible refine ok_toI ?_ | with_reducible refine ok_callA ?_ | with_reducible refine ok_callL ?_ | with_reducible refine ok_op1 ?_ | with_reducible refine ok_mv rfl ?_ | with_reducible refine ok_newA ?_ | with_reducible refine ok_newI ?_ | with_reducible refine ok_toS ?_ | with_reducible refine ok_isa ?_ | with_reducible refine ok_isaI ?_ | with_reducible refine ok_isaO ?_ | with_reducible refine ok_fld ?_ | with_reducible refine ok_chain ?_ | with_reducible refine ok_andM ?_ | with_reducible refine ok_orM ?_ | with_reducible refine ok_notM ?_ | with_reducible refine ok_makeA ?_ | with_reducible refine ok_cutN ?_ | with_reducible refine ok_cutI ?_ | with_reducible refine ok_get1M ?_ | with_reducible refine ok_ifE ?_ | with_reducible refine ok_appS ?_ | with_reducible refine ok_sLc ?_ | with_reducible refine ok_sDc ?_ | with_reducible refine ok_clearM ?_ | with_reducible refine ok_sApp2 ?_ | with_reducible refine ok_sClear2 ?_ | with_reducible refine ok_strM ?_ | with_reducible refine ok_tupA ?_ | with_reducible refine ok_catTA ?_ | with_reducible refine ok_revI ?_ | with_reducible refine ok_inO ?_ | with_reducible refine ok_ixO ?_ | with_reducible refine ok_repM ?_ | with_reducible refine ok_repTA ?_ | with_reducible refine ok_mvA ?_ | with_reducible refine ok_sAddS ?_ | with_reducible refine ok_set1M ?_ | with_reducible refine ok_noE ?_))
  | ((with_reducible refine okGl ?_); (first | with_reducible refine ok_cons ?_ | with_reducible refine ok_nil ?_ | with_reducible refine ok_elems ?_ | with_reducible refine ok_selfA ?_ | with_reducible refine ok_propA ?_ | with_reducible refine ok_rng1 ?_ | with_reducible refine ok_rng2 ?_ | with_reducible refine ok_enum ?_ | with_reducible refine ok_valsM ?_ | with_reducible refine ok_starM ?_ | with_reducible refine ok_starFM ?_ | with_reducible refine ok_noE ?_))
  | ((with_reducible refine okGb ?_); (first | with_reducible refine ok_tst ?_ | with_reducible refine ok_andT ?_ | with_reducible refine ok_orT ?_ | with_reducible refine ok_notT ?_ | with_reducible refine ok_truT ?_ | with_reducible refine ok_noE ?_))
  | ((with_reducible refine okGo ?_); (first | with_reducible refine ok_noPart ?_ | with_reducible refine ok_part ?_))
  | ((with_reducible refine okGu ?_); (first | with_reducible refine ok_putT2 ?_ | with_reducible refine ok_putT3 ?_))
  | ((with_reducible refine w1G ?_); (first | ((with_reducible refine gGet ?_); (first | with_reducible refine w1 (v_p0 _ _ _ _) ?_ | with_reducible refine w1 (v_p1 _ _ _ _) ?_ | with_reducible refine w1 (v_p2 _ _ _ _) ?_ | with_reducible refine w1 (v_p3 _ _ _ _) ?_ | with_reducible refine w1 (key_fst _) ?_ | with_reducible refine w1 (key_snd _) ?_)) | ((with_reducible refine gFld ?_); (first | with_reducible refine w1 (v_al _ _ _ _ _) ?_ | with_reducible refine w1 (v_or _ _ _ _ _) ?_ | with_reducible refine w1 (v_ed _ _ _ _ _) ?_ | with_reducible refine w1 (v_en _ _ _ _ _) ?_ | with_reducible refine w1 (v_pl _ _ _ _ _) ?_)) | ((with_reducible refine gCls ?_); (first | with_reducible refine w1 (v_cm _ _ _ _ _) ?_)) | ((with_reducible refine gTup ?_); (first | with_reducible refine w1 (v_key _ _) ?_ | with_reducible refine w1 (v_tup0) ?_)) | ((with_reducible refine gLen ?_); (first | with_reducible refine w1 (v_len _) ?_ | with_reducible refine w1 (v_lenT _) ?_ | with_reducible refine w1 (v_lenM _) ?_)) | ((with_reducible refine gLt ?_); (first | with_reducible refine w1 (v_lt _ _) ?_)) | ((with_reducible refine gLe ?_); (first | with_reducible refine w1 (v_le _ _) ?_)) | ((with_reducible refine gGt ?_); (first | with_reducible refine w1 (v_gt _ _) ?_)) | ((with_reducible refine gGe ?_); (first | with_reducible refine w1 (v_ge _ _) ?_)) | ((with_reducible refine gAdd ?_); (first | with_reducible refine w1 (v_add _ _) ?_)) | ((with_reducible refine gSub ?_); (first | with_reducible refine w1 (v_sub _ _) ?_)) | ((with_reducible refine gEq ?_); (first | with_reducible refine w1 (v_eqI _ _) ?_ | with_reducible refine w1 (eq_strs _ _) ?_)) | ((with_reducible refine gNe ?_); (first | with_reducible refine w1 (v_neI _ _) ?_ | with_reducible refine w1 (v_neS _ _) ?_)) | ((with_reducible refine gIn ?_); (first | with_reducible refine w1 (in_strs _ _) ?_ | with_reducible refine w1 (v_inM _ _) ?_ | with_reducible refine w1 (v_inO _ _) ?_)) | ((with_reducible refine gNin ?_); (first | with_reducible refine w1 (notIn_strs _ _) ?_ | with_reducible refine w1 (v_notInM _ _) ?_)) | ((with_reducible refine gIs ?_); (first | with_reducible refine w1 (v_isO _) ?_ | with_reducible refine w1 (v_isS _) ?_ | with_reducible refine w1 (v_isN) ?_ | with_reducible refine w1 (v_isI _) ?_)) | ((with_reducible refine gNis ?_); (first | with_reducible refine w1 (v_notO _) ?_ | with_reducible refine w1 (v_notS _) ?_ | with_reducible refine w1 (v_notN) ?_ | with_reducible refine w1 (v_notI _) ?_)) | ((with_reducible refine gList ?_); (first | with_reducible refine w1 (v_list _) ?_ | with_reducible refine w1 (v_listR _) ?_)) | ((with_reducible refine gEl ?_); (first | with_reducible refine w1 (v_el _) ?_ | with_reducible refine w1 (v_elR _) ?_ | with_reducible refine w1 (elems_moves _) ?_)) | ((with_reducible refine gLst ?_); (first | with_reducible refine w1 (v_lst0) ?_))))
  | ((with_reducible refine gImm ?_); (first | with_reducible refine v_imS ?_ | with_reducible refine v_imI ?_ | with_reducible refine v_imN ?_ | with_reducible refine v_imB ?_ | with_reducible refine v_imO ?_ | with_reducible refine v_imK ?_ | with_reducible refine v_imR ?_))
  | ((with_reducible refine gEx ?_); (first | with_reducible refine wb ?_ | with_reducible refine wstr ?_ | with_reducible refine v_mvs _ ?_ | with_reducible refine v_kk _ ?_))
  | ((with_reducible refine gIf ?_); (first | with_reducible refine iTrue ?_ | with_reducible refine iFalse ?_ | refine iF (show _ = false from rfl) ?_ | refine iT (show _ = true from rfl) ?_))
  | simp only [List.set_cons_zero, List.set_cons_succ]
  | dsimp only))
local macro_rules | `(tactic| walk_at "gw") => `(tactic| repeat (first | walk_at "g1" | ((with_reducible refine w1G ?_); refine w1 (by exact rfl) ?_)))
section
def runM (ms : List Mv) (s : Option Str) (zs : List Str) : Option Str := zs.foldl (fun o z => o.bind fun s => lookM ms (s, z)) s
theorem runM_snoc (ms : List Mv) (s : Option Str) (zs : List Str) (z : Str) : runM ms s (zs ++ [z]) = (runM ms s zs).bind fun s => lookM ms (s, z) := by
  unfold runM; rw [List.foldl_append]; rfl
/-- a list or tuple of texts -/
def IsRow (t : T) (zs : List Str) : Prop := t = strsT zs ∨ t = rowT zs
theorem IsRow.len {t : T} {zs : List Str} (h : IsRow t zs) : fLen [t] = some (.int zs.length) := by
  rcases h with rfl | rfl
  · exact v_len zs
  · exact v_lenT zs
theorem IsRow.list {t : T} {zs : List Str} (h : IsRow t zs) : fList [t] = some (zs.map .str) := by rcases h with rfl | rfl <;> rfl
theorem num_enc (zs : List Str) : numbered (zs.map T.str) = zs.zipIdx.map fun p => T.tup [.int p.2, .str p.1] := num_strs zs 0
theorem IsRow.num {t : T} {zs : List Str} (h : IsRow t zs) : fEnum [t] = some (zs.zipIdx.map fun p => T.tup [.int p.2, .str p.1]) := by
  rcases h with rfl | rfl
  · show some (numbered (zs.map T.str)) = _; rw [num_enc]
  · show some (numbered (zs.map T.str)) = _; rw [num_enc]
end
section
theorem NameOk.len {z : Str} (h : NameOk z) : z.length ≤ 8 := h.hi
end
section
def nameB (z : Str) : Bool := decide (1 ≤ z.length) && (decide (z.length ≤ 8) && z.cps.toList.all fun c => decide (c ∈ abcS.cps.toList))
theorem nameB_ok {z : Str} : nameB z = true ↔ NameOk z := by
  unfold nameB
  simp only [Bool.and_eq_true, decide_eq_true_eq, List.all_eq_true]
  constructor
  · rintro ⟨h1, h2, h3⟩
    refine ⟨h1, h2, fun c hc => ?_⟩
    have := h3 c hc
    rw [abc_list, List.mem_range'_1] at this
    omega
  · rintro h
    refine ⟨h.lo, h.hi, fun c hc => ?_⟩
    have := h.abc c hc
    rw [abc_list, List.mem_range'_1]
    omega
theorem is_name_str {z : Str} (hz : z.length ≤ 1000) : Fok f_is_name [.str z] fun w _ => w = .bl (nameB z) := by
  have hsz : (10000 : Nat) < szL := by decide
  refine fok_at (τ0 := [some _, none]) rfl ?_
  unfold st_is_name
  walk_at "go"
  refine w1 (a := .bl true) rfl ?_
  walk_at "go"
  refine ⟨.int z.length, ?_, decide ((1 : Int) ≤ z.length), rfl, ?_⟩
  · show (if z.length ≤ szL then some (T.int z.length) else none) = _
    rw [if_pos (by omega)]
  by_cases h1 : 1 ≤ z.length
  · refine iT (decide_eq_true (by omega)) ?_
    walk_at "go"
    by_cases h8 : z.length ≤ 8
    · refine iF (by rw [decide_eq_true (by omega)]; rfl) ?_
      walk_at "go"
      refine w1 (a := z.cps.toList.map fun c => T.str ⟨#[c]⟩) rfl ?_
      refine ok_walk (fun done τ => (∀ c ∈ done, c ∈ abcS.cps.toList) ∧ ∃ y, τ = [some (.str z), y]) ⟨by simp, none, rfl⟩ ?_ ?_
      · rintro done c r τ e ⟨hd, y, rfl⟩
        refine ok_put ?_
        walk_at "go"
        refine w1 (a := .bl (!decide (c ∈ abcS.cps.toList))) rfl ?_
        walk_at "go"
        by_cases hc : c ∈ abcS.cps.toList
        · refine iF (by rw [decide_eq_true hc]; rfl) ?_
          walk_at "go"
          refine ⟨?_, _, rfl⟩
          intro d hdd
          rcases List.mem_append.mp hdd with h | h
          · exact hd d h
          · simp at h; rw [h]; exact hc
        · refine iT (by rw [decide_eq_false hc]; rfl) ?_
          walk_at "go"
          unfold nameB
          have : (z.cps.toList.all fun c => decide (c ∈ abcS.cps.toList)) = false := List.all_eq_false.mpr ⟨c, by rw [← e]; simp, by simp only [decide_eq_true_eq]; exact hc⟩
          rw [this]; simp
      · rintro τ ⟨hd, y, rfl⟩
        walk_at "go"
        unfold nameB
        rw [decide_eq_true h1, decide_eq_true h8, List.all_eq_true.mpr fun c hc => decide_eq_true (hd c hc)]; rfl
    · refine iT (by rw [decide_eq_false (by omega)]; rfl) ?_
      walk_at "go"
      unfold nameB
      rw [decide_eq_false h8]; simp
  · refine iF (decide_eq_false (by omega)) ?_
    walk_at "go"
    unfold nameB
    rw [decide_eq_false h1]; simp
theorem oIsAI_nil (x : T) (ts : List String) : oIsAI [] x ts = oIsA x ts := by cases x <;> rfl
theorem is_name_no {x : T} (h : oIsAI csL x ["str"] = some (.bl false)) : Fok f_is_name [x] fun w _ => w = .bl false := by
  refine fok_at (τ0 := [some _, none]) rfl ?_
  unfold st_is_name
  walk_at "go"
  first | refine w1 h ?_ | refine w1 ((oIsAI_nil _ _).symm.trans h) ?_
  walk_at "go"
/-- neither a name nor a pair -/
def Odd (t : T) : Prop := (∃ z, t = .str z ∧ z.length ≤ 1000 ∧ nameB z = false) ∨ (oIsAI csL t ["str"] = some (.bl false) ∧ (oIsAI csL t ["tuple"] = some (.bl false) ∨ ∃ u, t = .tup [u]))
theorem Odd.name {t : T} (h : Odd t) : Fok f_is_name [t] fun w _ => w = .bl false := by
  rcases h with ⟨z, rfl, hz, hn⟩ | ⟨h, _⟩
  · rw [← hn]; exact is_name_str hz
  · exact is_name_no h
end
section
def lookC (cs : List (Str × Nat)) (z : Str) : Option Nat := (cs.find? fun e => decide (e.1 = z)).map (·.2)
theorem lookC_cons (e : Str × Nat) (cs : List (Str × Nat)) (z : Str) : lookC (e :: cs) z = if e.1 = z then some e.2 else lookC cs z := by
  unfold lookC
  rw [List.find?_cons]
  by_cases h : e.1 = z
  · rw [decide_eq_true h, if_pos h]; rfl
  · rw [decide_eq_false h, if_neg h]
def setN (cs : List (Str × Nat)) (z : Str) (n : Nat) : List (Str × Nat) := if (lookC cs z).isSome = true then cs.map (fun e => if e.1 = z then (e.1, n) else e) else cs ++ [(z, n)]
theorem lookC_map {z : Str} {n : Nat} (y : Str) : ∀ cs : List (Str × Nat), lookC (cs.map fun e => if e.1 = z then (e.1, n) else e) y = if y = z then (lookC cs z).map (fun _ => n) else lookC cs y
  | [] => by by_cases h : y = z <;> simp [h, lookC]
  | e :: cs => by
    rw [List.map_cons, lookC_cons, lookC_map y cs, lookC_cons, lookC_cons]
    by_cases he : e.1 = z
    · rw [if_pos he]
      by_cases hy : y = z
      · rw [if_pos (by rw [he, hy]), if_pos hy, if_pos he]; rfl
      · rw [if_neg (by rw [he]; exact fun h => hy h.symm), if_neg hy, if_neg hy, if_neg (by rw [he]; exact fun h => hy h.symm)]
    · rw [if_neg he]
      by_cases hy : y = z
      · rw [if_neg (by rw [hy]; exact he), if_pos hy, if_pos hy, if_neg he]
      · rw [if_neg hy, if_neg hy]
theorem lookC_app (cs : List (Str × Nat)) (z y : Str) (n : Nat) (h : lookC cs z = none) : lookC (cs ++ [(z, n)]) y = if y = z then some n else lookC cs y := by
  induction cs with
  | nil =>
    rw [List.nil_append, lookC_cons]
    by_cases hy : y = z
    · rw [if_pos hy.symm, if_pos hy]
    · rw [if_neg (fun h => hy h.symm), if_neg hy]
  | cons e cs ih =>
    rw [lookC_cons] at h
    have he : ¬ e.1 = z := fun he => by rw [if_pos he] at h; cases h
    rw [if_neg he] at h
    rw [List.cons_append, lookC_cons, ih h, lookC_cons]
    by_cases hy : y = z
    · rw [if_neg (by rw [hy]; exact he), if_pos hy, if_pos hy]
    · rw [if_neg hy, if_neg hy]
theorem lookC_set (cs : List (Str × Nat)) (z y : Str) (n : Nat) : lookC (setN cs z n) y = if y = z then some n else lookC cs y := by
  unfold setN
  cases h : lookC cs z with
  | some m =>
    rw [if_pos (show (some m).isSome = true from rfl), lookC_map, h]; rfl
  | none =>
    rw [if_neg (by simp)]
    exact lookC_app cs z y n h
theorem lookC_key {cs : List (Str × Nat)} (nd : (cs.map (·.1)).Nodup) {e : Str × Nat} (he : e ∈ cs) : lookC cs e.1 = some e.2 := by
  induction cs with
  | nil => cases he
  | cons f cs ih =>
    rw [List.map_cons, List.nodup_cons] at nd
    rw [lookC_cons]
    rcases List.mem_cons.mp he with rfl | he
    · rw [if_pos rfl]
    · rw [if_neg (fun h => nd.1 (by rw [h]; exact List.mem_map_of_mem (f := (·.1)) he))]
      exact ih nd.2 he
structure CsOk (sts : List Str) (cs : List (Str × Nat)) : Prop where
  nd : (cs.map (·.1)).Nodup
  mem : ∀ e ∈ cs, e.1 ∈ sts
theorem CsOk.len {sts : List Str} {cs : List (Str × Nat)} (h : CsOk sts cs) : cs.length ≤ sts.length := by
  have := h.nd.length_le_of_subset (l₂ := sts) fun z hz => by
    obtain ⟨e, he, rfl⟩ := List.mem_map.mp hz
    exact h.mem e he
  rw [List.length_map] at this; exact this
theorem CsOk.set {sts : List Str} {cs : List (Str × Nat)} (h : CsOk sts cs) {z : Str} (hz : z ∈ sts) (n : Nat) : CsOk sts (setN cs z n) := by
  unfold setN
  by_cases hs : (lookC cs z).isSome = true
  · rw [if_pos hs]
    have ek : (cs.map fun e => if e.1 = z then (e.1, n) else e).map (·.1) = cs.map (·.1) := by
      rw [List.map_map]
      refine List.map_congr_left fun e _ => ?_
      show (if e.1 = z then (e.1, n) else e).1 = e.1
      split <;> rfl
    refine ⟨by rw [ek]; exact h.nd, fun e he => ?_⟩
    have : e.1 ∈ cs.map (·.1) := by rw [← ek]; exact List.mem_map_of_mem (f := (·.1)) he
    obtain ⟨f, hf, e2⟩ := List.mem_map.mp this
    rw [← e2]; exact h.mem f hf
  · rw [if_neg hs]
    refine ⟨?_, fun e he => ?_⟩
    · rw [List.map_append, List.nodup_append]
      refine ⟨h.nd, by simp, fun a ha b hb e => hs ?_⟩
      simp at hb
      obtain ⟨f, hf, rfl⟩ := List.mem_map.mp ha
      rw [← hb, ← e, lookC_key h.nd hf]; rfl
    · rcases List.mem_append.mp he with he | he
      · exact h.mem e he
      · simp at he; rw [he]; exact hz
/-- never more than before -/
def Below (a b : List (Str × Nat)) : Prop := ∀ z n, lookC a z = some n → ∃ m, lookC b z = some m ∧ m ≤ n
theorem Below.refl (a : List (Str × Nat)) : Below a a := fun z n h => ⟨n, h, Nat.le_refl _⟩
theorem Below.trans {a b c : List (Str × Nat)} (h : Below a b) (h' : Below b c) : Below a c := fun z n hz => by
  obtain ⟨m, h1, h2⟩ := h z n hz
  obtain ⟨k, h3, h4⟩ := h' z m h1
  exact ⟨k, h3, by omega⟩
/-- closed under putting tokens in -/
inductive Pt (ms : List Mv) (Bp : Str → Nat → Prop) : Str → Nat → Prop where
  | base {z : Str} {n : Nat} : Bp z n → Pt ms Bp z n
  | put {z z' x : Str} {n : Nat} : Pt ms Bp z n → lookM ms (z, x) = some z' → Pt ms Bp z' (n + 1)
/-- behind one token more of the source -/
def Nx (ms : List Mv) (y : Str) (Rp : Str → Nat → Prop) (z : Str) (n : Nat) : Prop := (∃ m, Rp z m ∧ n = m + 1) ∨ ∃ z0 x m, Rp z0 m ∧ lookM ms (z0, x) = some z ∧ n = m + (if x = y then 0 else 1)
def R0 (o : Str) (z : Str) (n : Nat) : Prop := z = o ∧ n = 0
def Gr (ms : List Mv) (Rp : Str → Nat → Prop) (row : List Str) : Str → Nat → Prop := row.foldl (fun Rp y => Pt ms (Nx ms y Rp)) Rp
/-- n edits lead from the row to one that ends in z -/
def Rr (ms : List Mv) (o : Str) (row : List Str) : Str → Nat → Prop := Gr ms (Pt ms (R0 o)) row
theorem Gr_snoc (ms : List Mv) (Rp : Str → Nat → Prop) (d : List Str) (y : Str) : Gr ms Rp (d ++ [y]) = Pt ms (Nx ms y (Gr ms Rp d)) := by unfold Gr; rw [List.foldl_append]; rfl
theorem Rr_snoc (ms : List Mv) (o : Str) (d : List Str) (y : Str) : Rr ms o (d ++ [y]) = Pt ms (Nx ms y (Rr ms o d)) := Gr_snoc ms _ d y
end
section
/-- an edit -/
inductive Ed where
  | keep (x : Str)
  | drop (x : Str)
  | put (x : Str)
  | turn (y x : Str)
def Ed.kind : Ed → Str
  | .keep _ => PySem.Str.ofString "keep"
  | .drop _ => PySem.Str.ofString "drop"
  | .put _ => PySem.Str.ofString "put"
  | .turn _ _ => PySem.Str.ofString "turn"
def Ed.fst : Ed → Str
  | .keep x => x
  | .drop x => x
  | .put x => x
  | .turn y _ => y
def Ed.lst : Ed → Str
  | .keep x => x
  | .drop x => x
  | .put x => x
  | .turn _ x => x
def edT : Ed → T
  | .turn y x => .tup [.str (PySem.Str.ofString "turn"), .str y, .str x]
  | .keep x => .tup [.str (PySem.Str.ofString "keep"), .str x]
  | .drop x => .tup [.str (PySem.Str.ofString "drop"), .str x]
  | .put x => .tup [.str (PySem.Str.ofString "put"), .str x]
def EdOk (toks : List Str) : Ed → Prop
  | .turn y x => y ∈ toks ∧ x ∈ toks ∧ y ≠ x
  | .keep x => x ∈ toks
  | .drop x => x ∈ toks
  | .put x => x ∈ toks
def NameE : Ed → Prop
  | .turn y x => NameOk y ∧ NameOk x ∧ y ≠ x
  | .keep x => NameOk x
  | .drop x => NameOk x
  | .put x => NameOk x
theorem EdOk.name {toks : List Str} (ht : ∀ z ∈ toks, NameOk z) {e : Ed} (h : EdOk toks e) : NameE e := by
  cases e with
  | turn y x => exact ⟨ht _ h.1, ht _ h.2.1, h.2.2⟩
  | keep x => exact ht _ h
  | drop x => exact ht _ h
  | put x => exact ht _ h
def srcE (s : List Ed) : List Str := (s.filter fun e => !decide (e.kind = PySem.Str.ofString "put")).map Ed.fst
def tgtE (s : List Ed) : List Str := (s.filter fun e => !decide (e.kind = PySem.Str.ofString "drop")).map Ed.lst
def scrT (s : List Ed) : T := .lst (s.map edT)
theorem ed_kind (e : Ed) : oGet (edT e) (.int 0) = some (.str e.kind) := by cases e <;> rfl
theorem ed_fst (e : Ed) : oGet (edT e) (.int 1) = some (.str e.fst) := by cases e <;> rfl
theorem ed_lst (e : Ed) : oGet (edT e) (.int (-1)) = some (.str e.lst) := by cases e <;> rfl
theorem imm_ed (e : Ed) : imm (edT e) = true := by cases e <;> rfl
theorem is_edit2 {k x : Str} (hk : k = PySem.Str.ofString "keep" ∨ k = PySem.Str.ofString "drop" ∨ k = PySem.Str.ofString "put") (h : NameOk x) : Fok f_is_edit [.tup [.str k, .str x]] fun w _ => w = .bl true := by
  refine fok_at (τ0 := [some _]) rfl ?_
  unfold st_is_edit
  walk_at "go"
  refine w1 (a := .bl true) rfl ?_
  walk_at "go"
  refine w1 (a := .int 2) rfl ?_
  walk_at "go"
  refine ⟨true, rfl, ?_⟩
  walk_at "go"
  try refine iF rfl ?_
  walk_at "go"
  refine w1 (a := .str k) rfl ?_
  walk_at "go"
  refine w1 (a := .bl true) rfl ?_
  walk_at "go"
  try refine iF rfl ?_
  walk_at "go"
  refine w1 (a := .str x) rfl ?_
  walk_at "go"
  refine fok_imp (is_name_ok h) ?_
  rintro _ _ rfl
  walk_at "go"
  try refine iF rfl ?_
  walk_at "go"
  refine w1 (a := .int 2) rfl ?_
  walk_at "go"
  try refine iT rfl ?_
  walk_at "go"
  refine w1 (a := .str k) rfl ?_
  walk_at "go"
  refine w1 (a := .tup [.str (PySem.Str.ofString "keep"), .str (PySem.Str.ofString "drop"), .str (PySem.Str.ofString "put")]) rfl ?_
  walk_at "go"
  rcases hk with rfl | rfl | rfl <;> exact ⟨_, rfl, rfl⟩
theorem is_edit3 {y x : Str} (hy : NameOk y) (hx : NameOk x) (hn : y ≠ x) : Fok f_is_edit [.tup [.str (PySem.Str.ofString "turn"), .str y, .str x]] fun w _ => w = .bl true := by
  refine fok_at (τ0 := [some _]) rfl ?_
  unfold st_is_edit
  walk_at "go"
  refine w1 (a := .bl true) rfl ?_
  walk_at "go"
  refine w1 (a := .int 3) rfl ?_
  walk_at "go"
  refine ⟨true, rfl, ?_⟩
  walk_at "go"
  try refine iF rfl ?_
  walk_at "go"
  refine w1 (a := .str (PySem.Str.ofString "turn")) rfl ?_
  walk_at "go"
  refine w1 (a := .bl true) rfl ?_
  walk_at "go"
  try refine iF rfl ?_
  walk_at "go"
  refine w1 (a := .str y) rfl ?_
  walk_at "go"
  refine fok_imp (is_name_ok hy) ?_
  rintro _ _ rfl
  walk_at "go"
  try refine iF rfl ?_
  walk_at "go"
  refine w1 (a := .int 3) rfl ?_
  walk_at "go"
  try refine iF rfl ?_
  walk_at "go"
  refine w1 (a := .str (PySem.Str.ofString "turn")) rfl ?_
  walk_at "go"
  try refine iT rfl ?_
  walk_at "go"
  refine w1 (a := .str x) rfl ?_
  walk_at "go"
  refine fok_imp (is_name_ok hx) ?_
  rintro _ _ rfl
  walk_at "go"
  try refine iT rfl ?_
  walk_at "go"
  refine w1 (a := .str y) rfl ?_
  walk_at "go"
  refine w1 (a := .str x) rfl ?_
  walk_at "go"
  rw [decide_eq_false hn]; rfl
theorem is_edit_ok {e : Ed} (h : NameE e) : Fok f_is_edit [edT e] fun w _ => w = .bl true := by
  cases e with
  | turn y x => exact is_edit3 h.1 h.2.1 h.2.2
  | keep x => exact is_edit2 (.inl rfl) h
  | drop x => exact is_edit2 (.inr (.inl rfl)) h
  | put x => exact is_edit2 (.inr (.inr rfl)) h
end
section
/-- Q costs at most c more than P -/
def LagN (c : Nat) (P Q : Str → Nat → Prop) : Prop := ∀ z m, P z m → ∃ m', m' ≤ m + c ∧ Q z m'
theorem LagN.trans {c d : Nat} {P Q S : Str → Nat → Prop} (h : LagN c P Q) (h' : LagN d Q S) : LagN (c + d) P S := fun z m hz => by
  obtain ⟨m1, l1, h1⟩ := h z m hz
  obtain ⟨m2, l2, h2⟩ := h' z m1 h1
  exact ⟨m2, by omega, h2⟩
theorem LagN.pt {c : Nat} {ms : List Mv} {P Q : Str → Nat → Prop} (h : LagN c P Q) : LagN c (Pt ms P) (Pt ms Q) := by
  intro z m hz
  induction hz with
  | base hb =>
    obtain ⟨m', h1, h2⟩ := h _ _ hb
    exact ⟨m', h1, .base h2⟩
  | put _ hm ih =>
    obtain ⟨m', h1, h2⟩ := ih
    exact ⟨m' + 1, by omega, .put h2 hm⟩
theorem LagN.nx {c : Nat} {ms : List Mv} {P Q : Str → Nat → Prop} (y : Str) (h : LagN c P Q) : LagN c (Nx ms y P) (Nx ms y Q) := by
  rintro z m (⟨k, hk, rfl⟩ | ⟨z0, x, k, hk, hm, rfl⟩)
  · obtain ⟨m', h1, h2⟩ := h _ _ hk
    exact ⟨m' + 1, by omega, .inl ⟨m', h2, rfl⟩⟩
  · obtain ⟨m', h1, h2⟩ := h _ _ hk
    exact ⟨m' + (if x = y then 0 else 1), by omega, .inr ⟨z0, x, m', h2, hm, rfl⟩⟩
theorem LagN.snoc {c : Nat} {ms : List Mv} {o : Str} {a b : List Str} (h : LagN c (Rr ms o a) (Rr ms o b)) (x : Str) : LagN c (Rr ms o (a ++ [x])) (Rr ms o (b ++ [x])) := by
  rw [Rr_snoc, Rr_snoc]; exact (h.nx x).pt
end
section
theorem IsRow.at {t : T} {row : List Str} (h : IsRow t row) {k : Nat} {z : Str} (hk : row[k]? = some z) : oGet t (.int (k : Int)) = some (.str z) := by
  rcases h with rfl | rfl <;> exact pyAt_nat (by rw [List.getElem?_map, hk]; rfl)
theorem imms_eds : ∀ s : List Ed, imms (s.map edT) = true
  | [] => rfl
  | e :: s => by
    show (imm (edT e) && imms (s.map edT)) = true
    rw [imm_ed, imms_eds s]; rfl
end
section
theorem eds_snoc (s : List Ed) (e : Ed) : T.lst (s.map edT ++ [edT e]) = scrT (s ++ [e]) := by unfold scrT; rw [List.map_append]; rfl
theorem eds_in {toks : List Str} {s : List Ed} {e : Ed} (hs : ∀ e ∈ s, EdOk toks e) (he : EdOk toks e) : ∀ e' ∈ s ++ [e], EdOk toks e' := fun e' h => by
  rcases List.mem_append.mp h with h | h
  · exact hs e' h
  · simp at h; rw [h]; exact he
theorem lscript_ok {cells great : List Int} {c : Int} {toks : List Str} {most : Nat} (h : Good cells great c) (ht0 : 0 < toks.length) (ht1 : toks.length ≤ 100) (hm : most ≤ 1000) :
    Fok f__law_script [purseT cells great c, strsT toks, .int (most : Int)] fun w ps => ∃ s great' c', w = scrT s ∧ s.length ≤ most ∧ (∀ e ∈ s, EdOk toks e) ∧ ps = [some (purseT cells great' c'), some (strsT toks), some (.int (most : Int))] ∧ Good cells great' c' := by
  have hsz : (10000 : Nat) < szL := by decide
  refine fok_at (τ0 := [some _, some _, some _, none, none, none, none, none, none]) rfl ?_
  unfold st__law_script
  walk_at "go"
  refine ⟨_, rfl, fok_imp (draw_ok h (many := most + 1) (by omega) (by omega)) ?_⟩
  rintro _ _ ⟨n, g2, rfl, n0, n1, rfl, hg2⟩
  obtain ⟨n, rfl⟩ : ∃ n' : Nat, n = n' := ⟨n.toNat, by omega⟩
  refine ⟨_, rfl, ?_⟩
  walk_at "go"
  refine ⟨_, fRange1_nat (by omega), ?_⟩
  unfold intsL
  refine ok_walk (fun done τ => ∃ s g c a b d f, s.length ≤ done.length ∧ (∀ e ∈ s, EdOk toks e) ∧ Good cells g c ∧ τ = [some (purseT cells g c), some (strsT toks), some (.int (most : Int)), some (scrT s), a, b, d, f, none]) ⟨[], g2, _, none, none, none, none, Nat.le_refl _, by simp, hg2, rfl⟩ ?_ ?_
  · rintro done x r τ e ⟨s, g, c, a, b, d, f, hsl, hse, hg, rfl⟩
    have hdl : done.length < n := by
      have := congrArg List.length e
      rw [List.length_append, List.length_cons, List.length_range] at this; omega
    refine ok_put ?_
    walk_at "go"
    refine ⟨_, rfl, fok_imp (draw_ok hg (many := 4) (by omega) (by omega)) ?_⟩
    rintro _ _ ⟨i, g3, rfl, i0, i1, rfl, hg3⟩
    refine ⟨_, rfl, ?_⟩
    walk_at "go"
    refine ⟨_, rfl, fok_imp (draw_ok hg3 (many := toks.length) (by omega) (by omega)) ?_⟩
    rintro _ _ ⟨j, g4, rfl, j0, j1, rfl, hg4⟩
    refine ⟨_, rfl, ?_⟩
    obtain ⟨z, hz, ez⟩ := strs_get (zs := toks) j0 j1
    refine w1 ez ?_
    walk_at "go"
    refine ok_lcP (fun u => !decide (u = z)) .str rfl (by omega) ?_ ?_
    · intro u hu
      refine ok_put ?_
      walk_at "go"
      refine ⟨by first | rfl | trivial, ?_⟩
      refine iB (fun _ => ?_) (fun _ => rfl)
      walk_at "go"
      exact ⟨by first | rfl | trivial, rfl⟩
    have hot : ∀ u ∈ toks.filter (fun u => !decide (u = z)), u ∈ toks ∧ z ≠ u := fun u hu => by
      rw [List.mem_filter] at hu
      refine ⟨hu.1, fun h => ?_⟩
      have := hu.2
      rw [decide_eq_true h.symm] at this; cases this
    have hotl : (toks.filter (fun u => !decide (u = z))).length ≤ toks.length := List.length_filter_le _ _
    generalize toks.filter (fun u => !decide (u = z)) = ot at hot hotl
    have finE : ∀ (e : Ed) (g : List Int) (c : Int), EdOk toks e → Good cells g c → ∃ s' g' c' a b d f, s'.length ≤ (done ++ [x]).length ∧ (∀ e ∈ s', EdOk toks e) ∧ Good cells g' c' ∧ [some (purseT cells g c), some (strsT toks), some (.int (most : Int)), some (.lst (s.map edT ++ [edT e])), some (.int (0 + (x : Int))), some (.int i), some (.str z), some (.lst (ot.map .str)), none] = [some (purseT cells g' c'), some (strsT toks), some (.int (most : Int)), some (scrT s'), a, b, d, f, none] := by
      intro e g c he hg
      exact ⟨s ++ [e], g, c, _, _, _, _, by simp; omega, eds_in hse he, hg, by rw [eds_snoc]⟩
    obtain ⟨w, e, ew, he, hw⟩ : ∃ (w : Str) (e : Ed), edT e = .tup [.str w, .str z] ∧ EdOk toks e ∧ oGet (.lst [.str (PySem.Str.ofString "keep"), .str (PySem.Str.ofString "drop"), .str (PySem.Str.ofString "put"), .str (PySem.Str.ofString "keep")]) (.int i) = some (.str w) := by
      have : i = 0 ∨ i = 1 ∨ i = 2 ∨ i = 3 := by omega
      rcases this with rfl | rfl | rfl | rfl
      · exact ⟨_, .keep z, rfl, hz, rfl⟩
      · exact ⟨_, .drop z, rfl, hz, rfl⟩
      · exact ⟨_, .put z, rfl, hz, rfl⟩
      · exact ⟨_, .keep z, rfl, hz, rfl⟩
    walk_at "go"
    by_cases hi : i = 3
    · refine iT (decide_eq_true hi) ?_
      walk_at "go"
      refine w1 (a := .int ot.length) (v_len ot) ?_
      walk_at "go"
      by_cases ho : 0 < ot.length
      · refine iT (decide_eq_true (by omega)) ?_
        walk_at "go"
        refine ⟨⟨_, rfl⟩, ?_⟩
        walk_at "go"
        refine w1 (a := .int ot.length) (v_len ot) ?_
        walk_at "go"
        refine ⟨_, rfl, fok_imp (draw_ok hg4 (many := ot.length) (by omega) (by omega)) ?_⟩
        rintro _ _ ⟨l, g5, rfl, l0, l1, rfl, hg5⟩
        refine ⟨_, rfl, ?_⟩
        obtain ⟨z2, hz2, ez2⟩ := strs_get (zs := ot) l0 l1
        refine w1 ez2 ?_
        walk_at "go"
        refine w1 (a := edT (.turn z z2)) rfl ?_
        refine ⟨s.map edT, rfl, by rw [List.length_map]; omega, ?_⟩
        exact finE (.turn z z2) _ _ ⟨hz, (hot z2 hz2).1, (hot z2 hz2).2⟩ hg5
      · refine iF (decide_eq_false (by omega)) ?_
        walk_at "go"
        refine ⟨⟨_, rfl⟩, ?_⟩
        walk_at "go"
        refine w1 (a := T.lst [.str (PySem.Str.ofString "keep"), .str (PySem.Str.ofString "drop"), .str (PySem.Str.ofString "put"), .str (PySem.Str.ofString "keep")]) rfl ?_
        walk_at "go"
        refine w1 hw ?_
        walk_at "go"
        refine ⟨s.map edT, rfl, by rw [List.length_map]; omega, ?_⟩
        rw [show keyT (w, z) = edT e from ew.symm]
        exact finE e _ _ he hg4
    · refine iF (decide_eq_false hi) ?_
      walk_at "go"
      refine ⟨⟨_, rfl⟩, ?_⟩
      walk_at "go"
      refine w1 (a := T.lst [.str (PySem.Str.ofString "keep"), .str (PySem.Str.ofString "drop"), .str (PySem.Str.ofString "put"), .str (PySem.Str.ofString "keep")]) rfl ?_
      walk_at "go"
      refine w1 hw ?_
      walk_at "go"
      refine ⟨s.map edT, rfl, by rw [List.length_map]; omega, ?_⟩
      rw [show keyT (w, z) = edT e from ew.symm]
      exact finE e _ _ he hg4
  · rintro τ ⟨s, g, c, a, b, d, f, hsl, hse, hg, rfl⟩
    rw [List.length_range] at hsl
    walk_at "go"
    exact ⟨s, g, c, rfl, by omega, hse, rfl, hg⟩
end
section
theorem EdOk.fst {toks : List Str} {e : Ed} (h : EdOk toks e) : e.fst ∈ toks := by
  cases e with
  | turn y x => exact h.1
  | keep x => exact h
  | drop x => exact h
  | put x => exact h
theorem EdOk.lst {toks : List Str} {e : Ed} (h : EdOk toks e) : e.lst ∈ toks := by
  cases e with
  | turn y x => exact h.2.1
  | keep x => exact h
  | drop x => exact h
  | put x => exact h
end
end
end My
end
section
set_option Elab.async false
set_option Elab.async false
set_option linter.all false
set_option autoImplicit false
set_option maxHeartbeats 1000000
set_option maxRecDepth 100000
namespace My
open PySem TL TL.Pl
section
local macro_rules | `(tactic| walk_at "g1") => `(tactic| first
  | ((with_reducible refine okGc ?_); (first | with_reducible refine ok_seq ?_ | with_reducible refine ok_set ?_ | with_reducible refine ok_ret ?_ | with_reducible refine ok_drop ?_ | with_reducible refine ok_if ?_ | with_reducible refine ok_nx ?_ | with_reducible refine ok_sSetL ?_ | with_reducible refine ok_sSetI ?_ | with_reducible refine ok_sSet2 ?_ | with_reducible refine ok_sFldM ?_ | with_reducible refine ok_unp ?_ | with_reducible refine ok_only ?_ | with_reducible refine ok_must ?_ | with_reducible refine ok_for ?_ | with_reducible refine ok_noE ?_))
  | ((with_reducible refine okGt ?_); (first | with_reducible refine ok_get rfl ?_ | with_reducible refine ok_con ?_ | with_reducible refine ok_op2 ?_ | with_reducible refine ok_fnA ?_ | with_reducible refine ok_toI ?_ | with_reducible refine ok_callA ?_ | with_reducible refine ok_callL ?_ | with_reducible refine ok_op1 ?_ | with_reducible refine ok_mv rfl ?_ | with_reducible refine ok_newA ?_ | with_reducible refine ok_newI ?_ | with_reducible refine ok_toS ?_ | with_reducible refine ok_isa ?_ | with_reducible refine ok_isaI ?_ | with_reducible refine ok_isaO ?_ | with_reducible refine ok_fld ?_ | with_reducible refine ok_chain ?_ | with_reducible refine ok_andM ?_ | with_reducible refine ok_orM ?_ | with_reducible refine ok_notM ?_ | with_reducible refine ok_makeA ?_ | with_reducible refine ok_cutN ?_ | with_reducible refine ok_cutI ?_ | with_reducible refine ok_get1M ?_ | with_reducible refine ok_ifE ?_ | with_reducible refine ok_appS ?_ | with_reducible refine ok_sLc ?_ | with_reducible refine ok_sDc ?_ | with_reducible refine ok_clearM ?_ | with_reducible refine ok_sApp2 ?_ | with_reducible refine ok_sClear2 ?_ | with_reducible refine ok_strM ?_ | with_reducible refine ok_tupA ?_ | with_reducible refine ok_catTA ?_ | with_reducible refine ok_revI ?_ | with_reducible refine ok_inO ?_ | with_reducible refine ok_ixO ?_ | with_reducible refine ok_repM ?_ | with_reducible refine ok_repTA ?_ | with_reducible refine ok_mvA ?_ | with_reducible refine ok_sAddS ?_ | with_reducible refine ok_set1M ?_ | with_reducible refine ok_noE ?_))
  | ((with_reducible refine okGl ?_); (first | with_reducible refine ok_cons ?_ | with_reducible refine ok_nil ?_ | with_reducible refine ok_elems ?_ | with_reducible refine ok_selfA ?_ | with_reducible refine ok_propA ?_ | with_reducible refine ok_rng1 ?_ | with_reducible refine ok_rng2 ?_ | with_reducible refine ok_enum ?_ | with_reducible refine ok_valsM ?_ | with_reducible refine ok_starM ?_ | with_reducible refine ok_starFM ?_ | with_reducible refine ok_noE ?_))
  | ((with_reducible refine okGb ?_); (first | with_reducible refine ok_tst ?_ | with_reducible refine ok_andT ?_ | with_reducible refine ok_orT ?_ | with_reducible refine ok_notT ?_ | with_reducible refine ok_truT ?_ | with_reducible refine ok_noE ?_))
  | ((with_reducible refine okGo ?_); (first | with_reducible refine ok_noPart ?_ | with_reducible refine ok_part ?_))
  | ((with_reducible refine okGu ?_); (first | with_reducible refine ok_putT2 ?_ | with_reducible refine ok_putT3 ?_))
  | ((with_reducible refine w1G ?_); (first | ((with_reducible refine gGet ?_); (first | with_reducible refine w1 (v_p0 _ _ _ _) ?_ | with_reducible refine w1 (v_p1 _ _ _ _) ?_ | with_reducible refine w1 (v_p2 _ _ _ _) ?_ | with_reducible refine w1 (v_p3 _ _ _ _) ?_ | with_reducible refine w1 (key_fst _) ?_ | with_reducible refine w1 (key_snd _) ?_)) | ((with_reducible refine gFld ?_); (first | with_reducible refine w1 (v_al _ _ _ _ _) ?_ | with_reducible refine w1 (v_or _ _ _ _ _) ?_ | with_reducible refine w1 (v_ed _ _ _ _ _) ?_ | with_reducible refine w1 (v_en _ _ _ _ _) ?_ | with_reducible refine w1 (v_pl _ _ _ _ _) ?_)) | ((with_reducible refine gCls ?_); (first | with_reducible refine w1 (v_cm _ _ _ _ _) ?_)) | ((with_reducible refine gTup ?_); (first | with_reducible refine w1 (v_key _ _) ?_ | with_reducible refine w1 (v_tup0) ?_)) | ((with_reducible refine gLen ?_); (first | with_reducible refine w1 (v_len _) ?_ | with_reducible refine w1 (v_lenT _) ?_ | with_reducible refine w1 (v_lenM _) ?_)) | ((with_reducible refine gLt ?_); (first | with_reducible refine w1 (v_lt _ _) ?_)) | ((with_reducible refine gLe ?_); (first | with_reducible refine w1 (v_le _ _) ?_)) | ((with_reducible refine gGt ?_); (first | with_reducible refine w1 (v_gt _ _) ?_)) | ((with_reducible refine gGe ?_); (first | with_reducible refine w1 (v_ge _ _) ?_)) | ((with_reducible refine gAdd ?_); (first | with_reducible refine w1 (v_add _ _) ?_)) | ((with_reducible refine gSub ?_); (first | with_reducible refine w1 (v_sub _ _) ?_)) | ((with_reducible refine gEq ?_); (first | with_reducible refine w1 (v_eqI _ _) ?_ | with_reducible refine w1 (eq_strs _ _) ?_)) | ((with_reducible refine gNe ?_); (first | with_reducible refine w1 (v_neI _ _) ?_ | with_reducible refine w1 (v_neS _ _) ?_)) | ((with_reducible refine gIn ?_); (first | with_reducible refine w1 (in_strs _ _) ?_ | with_reducible refine w1 (v_inM _ _) ?_ | with_reducible refine w1 (v_inO _ _) ?_)) | ((with_reducible refine gNin ?_); (first | with_reducible refine w1 (notIn_strs _ _) ?_ | with_reducible refine w1 (v_notInM _ _) ?_)) | ((with_reducible refine gIs ?_); (first | with_reducible refine w1 (v_isO _) ?_ | with_reducible refine w1 (v_isS _) ?_ | with_reducible refine w1 (v_isN) ?_ | with_reducible refine w1 (v_isI _) ?_)) | ((with_reducible refine gNis ?_); (first | with_reducible refine w1 (v_notO _) ?_ | with_reducible refine w1 (v_notS _) ?_ | with_reducible refine w1 (v_notN) ?_ | with_reducible refine w1 (v_notI _) ?_)) | ((with_reducible refine gList ?_); (first | with_reducible refine w1 (v_list _) ?_ | with_reducible refine w1 (v_listR _) ?_)) | ((with_reducible refine gEl ?_); (first | with_reducible refine w1 (v_el _) ?_ | with_reducible refine w1 (v_elR _) ?_ | with_reducible refine w1 (elems_moves _) ?_)) | ((with_reducible refine gLst ?_); (first | with_reducible refine w1 (v_lst0) ?_))))
  | ((with_reducible refine gImm ?_); (first | with_reducible refine v_imS ?_ | with_reducible refine v_imI ?_ | with_reducible refine v_imN ?_ | with_reducible refine v_imB ?_ | with_reducible refine v_imO ?_ | with_reducible refine v_imK ?_ | with_reducible refine v_imR ?_))
  | ((with_reducible refine gEx ?_); (first | with_reducible refine wb ?_ | with_reducible refine wstr ?_ | with_reducible refine v_mvs _ ?_ | with_reducible refine v_kk _ ?_))
  | ((with_reducible refine gIf ?_); (first | with_reducible refine iTrue ?_ | with_reducible refine iFalse ?_ | refine iF (show _ = false from rfl) ?_ | refine iT (show _ = true from rfl) ?_))
  | simp only [List.set_cons_zero, List.set_cons_succ]
  | dsimp only)
local macro_rules | `(tactic| walk_at "go") => `(tactic| repeat (first
  | ((with_reducible refine okGc ?_); (first | with_reducible refine ok_seq ?_ | with_reducible refine ok_set ?_ | with_reducible refine ok_ret ?_ | with_reducible refine ok_drop ?_ | with_reducible refine ok_if ?_ | with_reducible refine ok_nx ?_ | with_reducible refine ok_sSetL ?_ | with_reducible refine ok_sSetI ?_ | with_reducible refine ok_sSet2 ?_ | with_reducible refine ok_sFldM ?_ | with_reducible refine ok_unp ?_ | with_reducible refine ok_only ?_ | with_reducible refine ok_must ?_ | with_reducible refine ok_for ?_ | with_reducible refine ok_noE ?_))
  | ((with_reducible refine okGt ?_); (first | with_reducible refine ok_get rfl ?_ | with_reducible refine ok_con ?_ | with_reducible refine ok_op2 ?_ | with_reducible refine ok_fnA ?_ | with_reducible refine ok_toI ?_ | with_reducible refine ok_callA ?_ | with_reducible refine ok_callL ?_ | with_reducible refine ok_op1 ?_ | with_reducible refine ok_mv rfl ?_ | with_reducible refine ok_newA ?_ | with_reducible refine ok_newI ?_ | with_reducible refine ok_toS ?_ | with_reducible refine ok_isa ?_ | with_reducible refine ok_isaI ?_ | with_reducible refine ok_isaO ?_ | with_reducible refine ok_fld ?_ | with_reducible refine ok_chain ?_ | with_reducible refine ok_andM ?_ | with_reducible refine ok_orM ?_ | with_reducible refine ok_notM ?_ | with_reducible refine ok_makeA ?_ | with_reducible refine ok_cutN ?_ | with_reducible refine ok_cutI ?_ | with_reducible refine ok_get1M ?_ | with_reducible refine ok_ifE ?_ | with_reducible refine ok_appS ?_ | with_reducible refine ok_sLc ?_ | with_reducible refine ok_sDc ?_ | with_reducible refine ok_clearM ?_ | with_reducible refine ok_sApp2 ?_ | with_reducible refine ok_sClear2 ?_ | with_reducible refine ok_strM ?_ | with_reducible refine ok_tupA ?_ | with_reducible refine ok_catTA ?_ | with_reducible refine ok_revI ?_ | with_reducible refine ok_inO ?_ | with_reducible refine ok_ixO ?_ | with_reducible refine ok_repM ?_ | with_reducible refine ok_repTA ?_ | with_reducible refine ok_mvA ?_ | with_reducible refine ok_sAddS ?_ | with_reducible refine ok_set1M ?_ | with_reducible refine ok_noE ?_))
  | ((with_reducible refine okGl ?_); (first | with_reducible refine ok_cons ?_ | with_reducible refine ok_nil ?_ | with_reducible refine ok_elems ?_ | with_reducible refine ok_selfA ?_ | with_reducible refine ok_propA ?_ | with_reducible refine ok_rng1 ?_ | with_reducible refine ok_rng2 ?_ | with_reducible refine ok_enum ?_ | with_reducible refine ok_valsM ?_ | with_reducible refine ok_starM ?_ | with_reducible refine ok_starFM ?_ | with_reducible refine ok_noE ?_))
  | ((with_reducible refine okGb ?_); (first | with_reducible refine ok_tst ?_ | with_reducible refine ok_andT ?_ | with_reducible refine ok_orT ?_ | with_reducible refine ok_notT ?_ | with_reducible refine ok_truT ?_ | with_reducible refine ok_noE ?_))
  | ((with_reducible refine okGo ?_); (first | with_reducible refine ok_noPart ?_ | with_reducible refine ok_part ?_))
  | ((with_reducible refine okGu ?_); (first | with_reducible refine ok_putT2 ?_ | with_reducible refine ok_putT3 ?_))
  | ((with_reducible refine w1G ?_); (first | ((with_reducible refine gGet ?_); (first | with_reducible refine w1 (v_p0 _ _ _ _) ?_ | with_reducible refine w1 (v_p1 _ _ _ _) ?_ | with_reducible refine w1 (v_p2 _ _ _ _) ?_ | with_reducible refine w1 (v_p3 _ _ _ _) ?_ | with_reducible refine w1 (key_fst _) ?_ | with_reducible refine w1 (key_snd _) ?_)) | ((with_reducible refine gFld ?_); (first | with_reducible refine w1 (v_al _ _ _ _ _) ?_ | with_reducible refine w1 (v_or _ _ _ _ _) ?_ | with_reducible refine w1 (v_ed _ _ _ _ _) ?_ | with_reducible refine w1 (v_en _ _ _ _ _) ?_ | with_reducible refine w1 (v_pl _ _ _ _ _) ?_)) | ((with_reducible refine gCls ?_); (first | with_reducible refine w1 (v_cm _ _ _ _ _) ?_)) | ((with_reducible refine gTup ?_); (first | with_reducible refine w1 (v_key _ _) ?_ | with_reducible refine w1 (v_tup0) ?_)) | ((with_reducible refine gLen ?_); (first | with_reducible refine w1 (v_len _) ?_ | with_reducible refine w1 (v_lenT _) ?_ | with_reducible refine w1 (v_lenM _) ?_)) | ((with_reducible refine gLt ?_); (first | with_reducible refine w1 (v_lt _ _) ?_)) | ((with_reducible refine gLe ?_); (first | with_reducible refine w1 (v_le _ _) ?_)) | ((with_reducible refine gGt ?_); (first | with_reducible refine w1 (v_gt _ _) ?_)) | ((with_reducible refine gGe ?_); (first | with_reducible refine w1 (v_ge _ _) ?_)) | ((with_reducible refine gAdd ?_); (first | with_reducible refine w1 (v_add _ _) ?_)) | ((with_reducible refine gSub ?_); (first | with_reducible refine w1 (v_sub _ _) ?_)) | ((with_reducible refine gEq ?_); (first | with_reducible refine w1 (v_eqI _ _) ?_ | with_reducible refine w1 (eq_strs _ _) ?_)) | ((with_reducible refine gNe ?_); (first | with_reducible refine w1 (v_neI _ _) ?_ | with_reducible refine w1 (v_neS _ _) ?_)) | ((with_reducible refine gIn ?_); (first | with_reducible refine w1 (in_strs _ _) ?_ | with_reducible refine w1 (v_inM _ _) ?_ | with_reducible refine w1 (v_inO _ _) ?_)) | ((with_reducible refine gNin ?_); (first | with_reducible refine w1 (notIn_strs _ _) ?_ | with_reducible refine w1 (v_notInM _ _) ?_)) | ((with_reducible refine gIs ?_); (first | with_reducible refine w1 (v_isO _) ?_ | with_reducible refine w1 (v_isS _) ?_ | with_reducible refine w1 (v_isN) ?_ | with_reducible refine w1 (v_isI _) ?_)) | ((with_reducible refine gNis ?_); (first | with_reducible refine w1 (v_notO _) ?_ | with_reducible refine w1 (v_notS _) ?_ | with_reducible refine w1 (v_notN) ?_ | with_reducible refine w1 (v_notI _) ?_)) | ((with_reducible refine gList ?_); (first | with_reducible refine w1 (v_list _) ?_ | with_reducible refine w1 (v_listR _) ?_)) | ((with_reducible refine gEl ?_); (first | with_reducible refine w1 (v_el _) ?_ | with_reducible refine w1 (v_elR _) ?_ | with_reducible refine w1 (elems_moves _) ?_)) | ((with_reducible refine gLst ?_); (first | with_reducible refine w1 (v_lst0) ?_))))
  | ((with_reducible refine gImm ?_); (first | with_reducible refine v_imS ?_ | with_reducible refine v_imI ?_ | with_reducible refine v_imN ?_ | with_reducible refine v_imB ?_ | with_reducible refine v_imO ?_ | with_reducible refine v_imK ?_ | with_reducible refine v_imR ?_))
  | ((with_reducible refine gEx ?_); (first | with_reducible refine wb ?_ | with_reducible refine wstr ?_ | with_reducible refine v_mvs _ ?_ | with_reducible refine v_kk _ ?_))
  | ((with_reducible refine gIf ?_); (first | with_reducible refine iTrue ?_ | with_reducible refine iFalse ?_ | refine iF (show _ = false from rfl) ?_ | refine iT (show _ = true from rfl) ?_))
  | simp only [List.set_cons_zero, List.set_cons_succ]
  | dsimp only))
local macro_rules | `(tactic| walk_at "gw") => `(tactic| repeat (first | walk_at "g1" | ((with_reducible refine w1G ?_); refine w1 (by exact rfl) ?_)))
section
def CsLe (b : Nat) (cs : List (Str × Nat)) : Prop := ∀ z n, lookC cs z = some n → n ≤ b
theorem CsLe.mono {a b : Nat} {cs : List (Str × Nat)} (h : CsLe a cs) (hab : a ≤ b) : CsLe b cs := fun z n hz => Nat.le_trans (h z n hz) hab
end
section
theorem CsLe.set {b : Nat} {cs : List (Str × Nat)} (h : CsLe b cs) {z : Str} {n : Nat} (hn : n ≤ b) : CsLe b (setN cs z n) := by
  intro y k hk
  rw [lookC_set] at hk
  by_cases hy : y = z
  · rw [if_pos hy] at hk; cases hk; exact hn
  · rw [if_neg hy] at hk; exact h _ _ hk
theorem CsLe.nil (b : Nat) : CsLe b [] := fun z n h => by cases h
end
section
structure Trim (ed : List Mv) (o : Str) (en ks : List Str) (ed2 : List Mv) (en2 : List Str) : Prop where
  hk : ∀ z, z ∈ ks ↔ Way ed o z ∧ ∃ g ∈ en, Way ed z g
  he : ∀ e, e ∈ ed2 ↔ e ∈ ed ∧ e.1.1 ∈ ks ∧ e.2 ∈ ks
  hn : ∀ z, z ∈ en2 ↔ z ∈ en ∧ z ∈ ks
theorem Trim.way {ed ed2 : List Mv} {o : Str} {en ks en2 : List Str} (h : Trim ed o en ks ed2 en2) {s z : Str} (hw : Way ed s z) : s ∈ ks → z ∈ ks → Way ed2 s z := by
  induction hw with
  | refl => exact fun _ _ => .refl _
  | @step e hw he ih =>
    intro hs hz
    obtain ⟨a1, _⟩ := (h.hk _).mp hs
    obtain ⟨_, g, hg, a2⟩ := (h.hk _).mp hz
    have hm : e.1.1 ∈ ks := (h.hk _).mpr ⟨way_trans a1 hw, g, hg, way_cons he a2⟩
    exact .step (ih hs hm) ((h.he e).mpr ⟨he, hm, hz⟩)
theorem Trim.start {ed ed2 : List Mv} {o : Str} {en ks en2 : List Str} (h : Trim ed o en ks ed2 en2) (hw : ∃ g ∈ en, Way ed o g) : o ∈ ks := (h.hk o).mpr ⟨.refl _, hw⟩
end
section
def putM (ms : List Mv) (k : Str × Str) (u : Str) : List Mv := if (lookM ms k).isSome = true then ms.map (fun e => if e.1 = k then (k, u) else e) else ms ++ [(k, u)]
def dropM (ms : List Mv) (k : Str × Str) : List Mv := ms.filter fun e => !decide (e.1 = k)
theorem look_key {ms : List Mv} {k : Str × Str} (h : k ∈ ms.map (·.1)) : ∃ u, lookM ms k = some u := by
  obtain ⟨e, he, rfl⟩ := List.mem_map.mp h
  unfold lookM
  cases hf : ms.find? (fun e' => decide (e'.1 = e.1)) with
  | some x => exact ⟨x.2, rfl⟩
  | none => exact absurd (List.find?_eq_none.mp hf e he) (by simp)
theorem putM_mem {ms : List Mv} {k : Str × Str} {u : Str} {e : Mv} (h : e ∈ putM ms k u) : e ∈ ms ∨ e = (k, u) := by
  unfold putM at h
  split at h
  · obtain ⟨e', he, rfl⟩ := List.mem_map.mp h
    split
    · exact .inr rfl
    · exact .inl he
  · rcases List.mem_append.mp h with h | h
    · exact .inl h
    · exact .inr (List.mem_singleton.mp h)
theorem putM_keys {ms : List Mv} {k : Str × Str} {u : Str} : (putM ms k u).map (·.1) = if (lookM ms k).isSome = true then ms.map (·.1) else ms.map (·.1) ++ [k] := by
  unfold putM
  split
  · rw [List.map_map]
    refine List.map_congr_left fun e _ => ?_
    show (if e.1 = k then (k, u) else e).1 = e.1
    split
    · rename_i h; exact h.symm
    · rfl
  · rw [List.map_append]; rfl
theorem putM_nd {ms : List Mv} {k : Str × Str} {u : Str} (nd : (ms.map (·.1)).Nodup) : ((putM ms k u).map (·.1)).Nodup := by
  rw [putM_keys]
  split
  · exact nd
  · rename_i h
    rw [List.nodup_append]
    refine ⟨nd, by simp, fun a ha b hb e => h ?_⟩
    obtain ⟨v, hv⟩ := look_key (k := k) (ms := ms) (by simp at hb; rw [← hb, ← e]; exact ha)
    rw [hv]; rfl
structure MsOk (toks sts : List Str) (ms : List Mv) : Prop where
  nd : (ms.map (·.1)).Nodup
  mo : ∀ e ∈ ms, MvOk toks e
  ma : ∀ e ∈ ms, e.1.1 ∈ sts ∧ e.2 ∈ sts
theorem MsOk.put {toks sts : List Str} {ms : List Mv} (h : MsOk toks sts ms) {s t u : Str} (hs : s ∈ sts) (ns : NameOk s) (ht : t ∈ toks) (nt : NameOk t) (hu : u ∈ sts) (nu : NameOk u) : MsOk toks sts (putM ms (s, t) u) := by
  refine ⟨putM_nd h.nd, fun e he => ?_, fun e he => ?_⟩
  · rcases putM_mem he with he | rfl
    · exact h.mo e he
    · exact ⟨ns, nt, nu, ht⟩
  · rcases putM_mem he with he | rfl
    · exact h.ma e he
    · exact ⟨hs, hu⟩
theorem MsOk.drop {toks sts : List Str} {ms : List Mv} (h : MsOk toks sts ms) (k : Str × Str) : MsOk toks sts (dropM ms k) := by
  refine ⟨?_, fun e he => h.mo e (List.mem_filter.mp he).1, fun e he => h.ma e (List.mem_filter.mp he).1⟩
  exact h.nd.sublist (List.filter_sublist.map _)
theorem pairs_len (xs ys : List Str) : (xs.flatMap fun x => ys.map fun y => (x, y)).length = xs.length * ys.length := by
  induction xs with
  | nil => simp
  | cons x xs ih => rw [List.flatMap_cons, List.length_append, ih, List.length_map, List.length_cons, Nat.add_mul]; omega
theorem MsOk.len {toks sts : List Str} {ms : List Mv} (h : MsOk toks sts ms) : ms.length ≤ sts.length * toks.length := by
  have := h.nd.length_le_of_subset (l₂ := sts.flatMap fun x => toks.map fun y => (x, y)) fun k hk => by
    obtain ⟨e, he, rfl⟩ := List.mem_map.mp hk
    exact List.mem_flatMap.mpr ⟨e.1.1, (h.ma e he).1, List.mem_map.mpr ⟨e.1.2, (h.mo e he).m, rfl⟩⟩
  rw [List.length_map, pairs_len] at this; exact this
end
end
end My
end
section
set_option Elab.async false
set_option Elab.async false
set_option linter.all false
set_option autoImplicit false
set_option maxHeartbeats 1000000
set_option maxRecDepth 100000
namespace My
open PySem TL TL.Pl
section
local macro_rules | `(tactic| walk_at "g1") => `(tactic| first
  | ((with_reducible refine okGc ?_); (first | with_reducible refine ok_seq ?_ | with_reducible refine ok_set ?_ | with_reducible refine ok_ret ?_ | with_reducible refine ok_drop ?_ | with_reducible refine ok_if ?_ | with_reducible refine ok_nx ?_ | with_reducible refine ok_sSetL ?_ | with_reducible refine ok_sSetI ?_ | with_reducible refine ok_sSet2 ?_ | with_reducible refine ok_sFldM ?_ | with_reducible refine ok_unp ?_ | with_reducible refine ok_only ?_ | with_reducible refine ok_must ?_ | with_reducible refine ok_for ?_ | with_reducible refine ok_noE ?_))
  | ((with_reducible refine okGt ?_); (first | with_reducible refine ok_get rfl ?_ | with_reducible refine ok_con ?_ | with_reducible refine ok_op2 ?_ | with_reducible refine ok_fnA ?_ | with_reducible refine ok_toI ?_ | with_reducible refine ok_callA ?_ | with_reducible refine ok_callL ?_ | with_reducible refine ok_op1 ?_ | with_reducible refine ok_mv rfl ?_ | with_reducible refine ok_newA ?_ | with_reducible refine ok_newI ?_ | with_reducible refine ok_toS ?_ | with_reducible refine ok_isa ?_ | with_reducible refine ok_isaI ?_ | with_reducible refine ok_isaO ?_ | with_reducible refine ok_fld ?_ | with_reducible refine ok_chain ?_ | with_reducible refine ok_andM ?_ | with_reducible refine ok_orM ?_ | with_reducible refine ok_notM ?_ | with_reducible refine ok_makeA ?_ | with_reducible refine ok_cutN ?_ | with_reducible refine ok_cutI ?_ | with_reducible refine ok_get1M ?_ | with_reducible refine ok_ifE ?_ | with_reducible refine ok_appS ?_ | with_reducible refine ok_sLc ?_ | with_reducible refine ok_sDc ?_ | with_reducible refine ok_clearM ?_ | with_reducible refine ok_sApp2 ?_ | with_reducible refine ok_sClear2 ?_ | with_reducible refine ok_strM ?_ | with_reducible refine ok_tupA ?_ | with_reducible refine ok_catTA ?_ | with_reducible refine ok_revI ?_ | with_reducible refine ok_inO ?_ | with_reducible refine ok_ixO ?_ | with_reducible refine ok_repM ?_ | with_reducible refine ok_repTA ?_ | with_reducible refine ok_mvA ?_ | with_reducible refine ok_sAddS ?_ | with_reducible refine ok_set1M ?_ | with_reducible refine ok_noE ?_))
  | ((with_reducible refine okGl ?_); (first | with_reducible refine ok_cons ?_ | with_reducible refine ok_nil ?_ | with_reducible refine ok_elems ?_ | with_reducible refine ok_selfA ?_ | with_reducible refine ok_propA ?_ | with_reducible refine ok_rng1 ?_ | with_reducible refine ok_rng2 ?_ | with_reducible refine ok_enum ?_ | with_reducible refine ok_valsM ?_ | with_reducible refine ok_starM ?_ | with_reducible refine ok_starFM ?_ | with_reducible refine ok_noE ?_))
  | ((with_reducible refine okGb ?_); (first | with_reducible refine ok_tst ?_ | with_reducible refine ok_andT ?_ | with_reducible refine ok_orT ?_ | with_reducible refine ok_notT ?_ | with_reducible refine ok_truT ?_ | with_reducible refine ok_noE ?_))
  | ((with_reducible refine okGo ?_); (first | with_reducible refine ok_noPart ?_ | with_reducible refine ok_part ?_))
  | ((with_reducible refine okGu ?_); (first | with_reducible refine ok_putT2 ?_ | with_reducible refine ok_putT3 ?_))
  | ((with_reducible refine w1G ?_); (first | ((with_reducible refine gGet ?_); (first | with_reducible refine w1 (v_p0 _ _ _ _) ?_ | with_reducible refine w1 (v_p1 _ _ _ _) ?_ | with_reducible refine w1 (v_p2 _ _ _ _) ?_ | with_reducible refine w1 (v_p3 _ _ _ _) ?_ | with_reducible refine w1 (key_fst _) ?_ | with_reducible refine w1 (key_snd _) ?_)) | ((with_reducible refine gFld ?_); (first | with_reducible refine w1 (v_al _ _ _ _ _) ?_ | with_reducible refine w1 (v_or _ _ _ _ _) ?_ | with_reducible refine w1 (v_ed _ _ _ _ _) ?_ | with_reducible refine w1 (v_en _ _ _ _ _) ?_ | with_reducible refine w1 (v_pl _ _ _ _ _) ?_)) | ((with_reducible refine gCls ?_); (first | with_reducible refine w1 (v_cm _ _ _ _ _) ?_)) | ((with_reducible refine gTup ?_); (first | with_reducible refine w1 (v_key _ _) ?_ | with_reducible refine w1 (v_tup0) ?_)) | ((with_reducible refine gLen ?_); (first | with_reducible refine w1 (v_len _) ?_ | with_reducible refine w1 (v_lenT _) ?_ | with_reducible refine w1 (v_lenM _) ?_)) | ((with_reducible refine gLt ?_); (first | with_reducible refine w1 (v_lt _ _) ?_)) | ((with_reducible refine gLe ?_); (first | with_reducible refine w1 (v_le _ _) ?_)) | ((with_reducible refine gGt ?_); (first | with_reducible refine w1 (v_gt _ _) ?_)) | ((with_reducible refine gGe ?_); (first | with_reducible refine w1 (v_ge _ _) ?_)) | ((with_reducible refine gAdd ?_); (first | with_reducible refine w1 (v_add _ _) ?_)) | ((with_reducible refine gSub ?_); (first | with_reducible refine w1 (v_sub _ _) ?_)) | ((with_reducible refine gEq ?_); (first | with_reducible refine w1 (v_eqI _ _) ?_ | with_reducible refine w1 (eq_strs _ _) ?_)) | ((with_reducible refine gNe ?_); (first | with_reducible refine w1 (v_neI _ _) ?_ | with_reducible refine w1 (v_neS _ _) ?_)) | ((with_reducible refine gIn ?_); (first | with_reducible refine w1 (in_strs _ _) ?_ | with_reducible refine w1 (v_inM _ _) ?_ | with_reducible refine w1 (v_inO _ _) ?_)) | ((with_reducible refine gNin ?_); (first | with_reducible refine w1 (notIn_strs _ _) ?_ | with_reducible refine w1 (v_notInM _ _) ?_)) | ((with_reducible refine gIs ?_); (first | with_reducible refine w1 (v_isO _) ?_ | with_reducible refine w1 (v_isS _) ?_ | with_reducible refine w1 (v_isN) ?_ | with_reducible refine w1 (v_isI _) ?_)) | ((with_reducible refine gNis ?_); (first | with_reducible refine w1 (v_notO _) ?_ | with_reducible refine w1 (v_notS _) ?_ | with_reducible refine w1 (v_notN) ?_ | with_reducible refine w1 (v_notI _) ?_)) | ((with_reducible refine gList ?_); (first | with_reducible refine w1 (v_list _) ?_ | with_reducible refine w1 (v_listR _) ?_)) | ((with_reducible refine gEl ?_); (first | with_reducible refine w1 (v_el _) ?_ | with_reducible refine w1 (v_elR _) ?_ | with_reducible refine w1 (elems_moves _) ?_)) | ((with_reducible refine gLst ?_); (first | with_reducible refine w1 (v_lst0) ?_))))
  | ((with_reducible refine gImm ?_); (first | with_reducible refine v_imS ?_ | with_reducible refine v_imI ?_ | with_reducible refine v_imN ?_ | with_reducible refine v_imB ?_ | with_reducible refine v_imO ?_ | with_reducible refine v_imK ?_ | with_reducible refine v_imR ?_))
  | ((with_reducible refine gEx ?_); (first | with_reducible refine wb ?_ | with_reducible refine wstr ?_ | with_reducible refine v_mvs _ ?_ | with_reducible refine v_kk _ ?_))
  | ((with_reducible refine gIf ?_); (first | with_reducible refine iTrue ?_ | with_reducible refine iFalse ?_ | refine iF (show _ = false from rfl) ?_ | refine iT (show _ = true from rfl) ?_))
  | simp only [List.set_cons_zero, List.set_cons_succ]
  | dsimp only)
local macro_rules | `(tactic| walk_at "go") => `(tactic| repeat (first
  | ((with_reducible refine okGc ?_); (first | with_reducible refine ok_seq ?_ | with_reducible refine ok_set ?_ | with_reducible refine ok_ret ?_ | with_reducible refine ok_drop ?_ | with_reducible refine ok_if ?_ | with_reducible refine ok_nx ?_ | with_reducible refine ok_sSetL ?_ | with_reducible refine ok_sSetI ?_ | with_reducible refine ok_sSet2 ?_ | with_reducible refine ok_sFldM ?_ | with_reducible refine ok_unp ?_ | with_reducible refine ok_only ?_ | with_reducible refine ok_must ?_ | with_reducible refine ok_for ?_ | with_reducible refine ok_noE ?_))
  | ((with_reducible refine okGt ?_); (first | with_reducible refine ok_get rfl ?_ | with_reducible refine ok_con ?_ | with_reducible refine ok_op2 ?_ | with_reducible refine ok_fnA ?_ | with_reducible refine ok_toI ?_ | with_reducible refine ok_callA ?_ | with_reducible refine ok_callL ?_ | with_reducible refine ok_op1 ?_ | with_reducible refine ok_mv rfl ?_ | with_reducible refine ok_newA ?_ | with_reducible refine ok_newI ?_ | with_reducible refine ok_toS ?_ | with_reducible refine ok_isa ?_ | with_reducible refine ok_isaI ?_ | with_reducible refine ok_isaO ?_ | with_reducible refine ok_fld ?_ | with_reducible refine ok_chain ?_ | with_reducible refine ok_andM ?_ | with_reducible refine ok_orM ?_ | with_reducible refine ok_notM ?_ | with_reducible refine ok_makeA ?_ | with_reducible refine ok_cutN ?_ | with_reducible refine ok_cutI ?_ | with_reducible refine ok_get1M ?_ | with_reducible refine ok_ifE ?_ | with_reducible refine ok_appS ?_ | with_reducible refine ok_sLc ?_ | with_reducible refine ok_sDc ?_ | with_reducible refine ok_clearM ?_ | with_reducible refine ok_sApp2 ?_ | with_reducible refine ok_sClear2 ?_ | with_reducible refine ok_strM ?_ | with_reducible refine ok_tupA ?_ | with_reducible refine ok_catTA ?_ | with_reducible refine ok_revI ?_ | with_reducible refine ok_inO ?_ | with_reducible refine ok_ixO ?_ | with_reducible refine ok_repM ?_ | with_reducible refine ok_repTA ?_ | with_reducible refine ok_mvA ?_ | with_reducible refine ok_sAddS ?_ | with_reducible refine ok_set1M ?_ | with_reducible refine ok_noE ?_))
  | ((with_reducible refine okGl ?_); (first | with_reducible refine ok_cons ?_ | with_reducible refine ok_nil ?_ | with_reducible refine ok_elems ?_ | with_reducible refine ok_selfA ?_ | with_reducible refine ok_propA ?_ | with_reducible refine ok_rng1 ?_ | with_reducible refine ok_rng2 ?_ | with_reducible refine ok_enum ?_ | with_reducible refine ok_valsM ?_ | with_reducible refine ok_starM ?_ | with_reducible refine ok_starFM ?_ | with_reducible refine ok_noE ?_))
  | ((with_reducible refine okGb ?_); (first | with_reducible refine ok_tst ?_ | with_reducible refine ok_andT ?_ | with_reducible refine ok_orT ?_ | with_reducible refine ok_notT ?_ | with_reducible refine ok_truT ?_ | with_reducible refine ok_noE ?_))
  | ((with_reducible refine okGo ?_); (first | with_reducible refine ok_noPart ?_ | with_reducible refine ok_part ?_))
  | ((with_reducible refine okGu ?_); (first | with_reducible refine ok_putT2 ?_ | with_reducible refine ok_putT3 ?_))
  | ((with_reducible refine w1G ?_); (first | ((with_reducible refine gGet ?_); (first | with_reducible refine w1 (v_p0 _ _ _ _) ?_ | with_reducible refine w1 (v_p1 _ _ _ _) ?_ | with_reducible refine w1 (v_p2 _ _ _ _) ?_ | with_reducible refine w1 (v_p3 _ _ _ _) ?_ | with_reducible refine w1 (key_fst _) ?_ | with_reducible refine w1 (key_snd _) ?_)) | ((with_reducible refine gFld ?_); (first | with_reducible refine w1 (v_al _ _ _ _ _) ?_ | with_reducible refine w1 (v_or _ _ _ _ _) ?_ | with_reducible refine w1 (v_ed _ _ _ _ _) ?_ | with_reducible refine w1 (v_en _ _ _ _ _) ?_ | with_reducible refine w1 (v_pl _ _ _ _ _) ?_)) | ((with_reducible refine gCls ?_); (first | with_reducible refine w1 (v_cm _ _ _ _ _) ?_)) | ((with_reducible refine gTup ?_); (first | with_reducible refine w1 (v_key _ _) ?_ | with_reducible refine w1 (v_tup0) ?_)) | ((with_reducible refine gLen ?_); (first | with_reducible refine w1 (v_len _) ?_ | with_reducible refine w1 (v_lenT _) ?_ | with_reducible refine w1 (v_lenM _) ?_)) | ((with_reducible refine gLt ?_); (first | with_reducible refine w1 (v_lt _ _) ?_)) | ((with_reducible refine gLe ?_); (first | with_reducible refine w1 (v_le _ _) ?_)) | ((with_reducible refine gGt ?_); (first | with_reducible refine w1 (v_gt _ _) ?_)) | ((with_reducible refine gGe ?_); (first | with_reducible refine w1 (v_ge _ _) ?_)) | ((with_reducible refine gAdd ?_); (first | with_reducible refine w1 (v_add _ _) ?_)) | ((with_reducible refine gSub ?_); (first | with_reducible refine w1 (v_sub _ _) ?_)) | ((with_reducible refine gEq ?_); (first | with_reducible refine w1 (v_eqI _ _) ?_ | with_reducible refine w1 (eq_strs _ _) ?_)) | ((with_reducible refine gNe ?_); (first | with_reducible refine w1 (v_neI _ _) ?_ | with_reducible refine w1 (v_neS _ _) ?_)) | ((with_reducible refine gIn ?_); (first | with_reducible refine w1 (in_strs _ _) ?_ | with_reducible refine w1 (v_inM _ _) ?_ | with_reducible refine w1 (v_inO _ _) ?_)) | ((with_reducible refine gNin ?_); (first | with_reducible refine w1 (notIn_strs _ _) ?_ | with_reducible refine w1 (v_notInM _ _) ?_)) | ((with_reducible refine gIs ?_); (first | with_reducible refine w1 (v_isO _) ?_ | with_reducible refine w1 (v_isS _) ?_ | with_reducible refine w1 (v_isN) ?_ | with_reducible refine w1 (v_isI _) ?_)) | ((with_reducible refine gNis ?_); (first | with_reducible refine w1 (v_notO _) ?_ | with_reducible refine w1 (v_notS _) ?_ | with_reducible refine w1 (v_notN) ?_ | with_reducible refine w1 (v_notI _) ?_)) | ((with_reducible refine gList ?_); (first | with_reducible refine w1 (v_list _) ?_ | with_reducible refine w1 (v_listR _) ?_)) | ((with_reducible refine gEl ?_); (first | with_reducible refine w1 (v_el _) ?_ | with_reducible refine w1 (v_elR _) ?_ | with_reducible refine w1 (elems_moves _) ?_)) | ((with_reducible refine gLst ?_); (first | with_reducible refine w1 (v_lst0) ?_))))
  | ((with_reducible refine gImm ?_); (first | with_reducible refine v_imS ?_ | with_reducible refine v_imI ?_ | with_reducible refine v_imN ?_ | with_reducible refine v_imB ?_ | with_reducible refine v_imO ?_ | with_reducible refine v_imK ?_ | with_reducible refine v_imR ?_))
  | ((with_reducible refine gEx ?_); (first | with_reducible refine wb ?_ | with_reducible refine wstr ?_ | with_reducible refine v_mvs _ ?_ | with_reducible refine v_kk _ ?_))
  | ((with_reducible refine gIf ?_); (first | with_reducible refine iTrue ?_ | with_reducible refine iFalse ?_ | refine iF (show _ = false from rfl) ?_ | refine iT (show _ = true from rfl) ?_))
  | simp only [List.set_cons_zero, List.set_cons_succ]
  | dsimp only))
local macro_rules | `(tactic| walk_at "gw") => `(tactic| repeat (first | walk_at "g1" | ((with_reducible refine w1G ?_); refine w1 (by exact rfl) ?_)))
section
def lookG {β : Type} (es : List ((Str × Str) × β)) (k : Str × Str) : Option β := (es.find? fun e => decide (e.1 = k)).map (·.2)
theorem lookG_cons {β : Type} (e : (Str × Str) × β) (es : List ((Str × Str) × β)) (k : Str × Str) : lookG (e :: es) k = if e.1 = k then some e.2 else lookG es k := by
  unfold lookG
  rw [List.find?_cons]
  by_cases h : e.1 = k
  · simp [h]
  · simp [h]
theorem lookG_some {β : Type} {es : List ((Str × Str) × β)} {k : Str × Str} (h : k ∈ es.map (·.1)) : ∃ b, lookG es k = some b := by
  induction es with
  | nil => cases h
  | cons m ms ih =>
    rw [lookG_cons]
    by_cases hk : m.1 = k
    · exact ⟨m.2, if_pos hk⟩
    · rw [if_neg hk]
      refine ih ?_
      rcases List.mem_cons.mp h with h | h
      · exact (hk h.symm).elim
      · exact h
/-- the dict with k put -/
def putG {β : Type} (es : List ((Str × Str) × β)) (k : Str × Str) (b : β) : List ((Str × Str) × β) := if (lookG es k).isSome = true then es.map (fun e => if e.1 = k then (e.1, b) else e) else es ++ [(k, b)]
theorem putG_keys {β : Type} {es : List ((Str × Str) × β)} {k : Str × Str} {b : β} (h : k ∈ es.map (·.1)) : (putG es k b).map (·.1) = es.map (·.1) := by
  obtain ⟨u, hu⟩ := lookG_some h
  unfold putG
  rw [hu, if_pos (by rfl), List.map_map]
  refine List.map_congr_left fun e _ => ?_
  show (if e.1 = k then (e.1, b) else e).1 = e.1
  split <;> rfl
inductive Act where
  | skip
  | put (x : Str)
  | take (x : Str)
  | jump (z : Str)
  | pass (ts : List Str) (z : Str)
/-- al: the tokens, sorted; pl: the states, sorted -/
def ActOk (al pl : List Str) (ms : List Mv) (s : Str) : Act → Prop
  | .skip => True
  | .put x => x ∈ al ∧ ∃ z, lookM ms (s, x) = some z
  | .take x => x ∈ al ∧ ∃ z, lookM ms (s, x) = some z
  | .jump z => z ∈ pl ∧ z ≠ s
  | .pass ts z => z ∈ pl ∧ ts ≠ [] ∧ ts.Sublist al
def pairsL (pl al : List Str) : List (Str × Str) := pl.flatMap fun s => al.map fun t => (s, t)
def keysA (pl al : List Str) (ms : List Mv) : List (Str × Str) := (pairsL pl al).filter fun k => !(lookM ms k).isSome
abbrev Ta := (Str × Str) × Act
structure Tab (pl al : List Str) (ms : List Mv) (tb : List Ta) : Prop where
  keys : tb.map (·.1) = keysA pl al ms
  ok : ∀ e ∈ tb, ActOk al pl ms e.1.1 e.2
def nxStep (ms : List Mv) (t s : Str) : Act → Option Str
  | .put x => lookM ms (s, x)
  | .jump z => some z
  | .pass ts z => if t ∈ ts then some z else none
  | _ => none
/-- the next state that is looked at, token t -/
def nxA (ms : List Mv) (tb : List Ta) (t s : Str) : Option Str := match lookM ms (s, t) with
  | some _ => none
  | none => (lookG tb (s, t)).bind (nxStep ms t s)
def itA (nx : Str → Option Str) : Nat → Option Str → Option Str
  | 0, o => o
  | n + 1, o => itA nx n (o.bind nx)
structure MvIn (pl al : List Str) (ms : List Mv) : Prop where
  p1 : ∀ s t z, lookM ms (s, t) = some z → z ∈ pl
end
section
/-- no pair rings -/
def Quiet (pl al : List Str) (ms : List Mv) (tb : List Ta) : Prop := ∀ s ∈ pl, ∀ t ∈ al, itA (nxA ms tb t) 8 (some s) = none
theorem Tab.skip {pl al : List Str} {ms : List Mv} {tb : List Ta} (h : Tab pl al ms tb) {k : Str × Str} (hk : k ∈ tb.map (·.1)) : Tab pl al ms (putG tb k .skip) := by
  refine ⟨by rw [putG_keys hk]; exact h.keys, fun e he => ?_⟩
  unfold putG at he
  split at he
  · obtain ⟨e', he', rfl⟩ := List.mem_map.mp he
    split
    · exact True.intro
    · exact h.ok e' he'
  · rcases List.mem_append.mp he with he | he
    · exact h.ok e he
    · rw [List.mem_singleton.mp he]; exact True.intro
end
section
def Sq (t : T) (xs : List T) : Prop := t = .lst xs ∨ t = .tup xs
theorem Sq.len {t : T} {xs : List T} (h : Sq t xs) : fLen [t] = some (.int xs.length) := by rcases h with rfl | rfl <;> rfl
theorem Sq.at {t : T} {xs : List T} (h : Sq t xs) {k : Nat} {x : T} (e : xs[k]? = some x) : oGet t (.int (k : Nat)) = some x := by
  rcases h with rfl | rfl
  · exact pyAt_nat e
  · exact pyAt_nat e
/-- what is known of a machine whose reader is made -/
structure MachOk (al pl : List Str) : Prop where
  an : ∀ z ∈ al, NameOk z
  pn : ∀ z ∈ pl, NameOk z
  a4 : al.length ≤ 4
  p8 : pl.length ≤ 8
  as : al.Pairwise sLt
  pd : pl.Nodup
end
section
theorem is_within_ok {v lo hi : Int} (h1 : lo ≤ v) (h2 : v ≤ hi) : Fok f_is_within [.int v, .int lo, .int hi] fun w _ => w = .bl true := by
  have hi' : Fok f_is_integer [.int v] fun w _ => w = .bl true := by
    refine fok_at (τ0 := [some _]) rfl ?_
    unfold st_is_integer
    walk_at "go"
    refine w1 (a := .bl true) rfl ?_
    walk_at "go"
    refine w1 (a := .bl false) rfl ?_
    walk_at "go"
    rfl
  refine fok_at (τ0 := [some _, some _, some _]) rfl ?_
  unfold st_is_within
  walk_at "go"
  refine fok_imp hi' ?_
  rintro _ _ rfl
  refine ⟨_, rfl, ?_⟩
  walk_at "go"
  refine ⟨true, by show some (T.bl (decide (lo ≤ v))) = _; rw [decide_eq_true h1], ?_⟩
  walk_at "go"
  rw [decide_eq_true h2]
end
section
/-- a state and what is waited for -/
abbrev Ba := Str × List Str
def addU (bs : List Ba) (b : Ba) : List Ba := if b ∈ bs then bs else bs ++ [b]
def baseOf : Act → Option Ba
  | .pass ts z => some (z, ts)
  | _ => none
def basesA (tb : List Ta) : List Ba := tb.foldl (fun L e => match baseOf e.2 with
  | some b => addU L b
  | none => L) []
theorem addU_nd {bs : List Ba} {b : Ba} (h : bs.Nodup) : (addU bs b).Nodup := by
  unfold addU
  split
  · exact h
  · rename_i hn
    rw [List.nodup_append]
    exact ⟨h, by simp, fun a ha c hc e => hn (by simp at hc; rw [← hc, ← e]; exact ha)⟩
theorem addU_mem {bs : List Ba} {b c : Ba} : c ∈ addU bs b ↔ c ∈ bs ∨ c = b := by
  unfold addU
  split
  · rename_i hb
    exact ⟨.inl, fun h => h.elim id fun e => by rw [e]; exact hb⟩
  · simp
theorem addU_len {bs : List Ba} {b : Ba} : (addU bs b).length ≤ bs.length + 1 := by
  unfold addU
  split <;> simp
theorem basesA_snoc (tb : List Ta) (e : Ta) : basesA (tb ++ [e]) = match baseOf e.2 with
  | some b => addU (basesA tb) b
  | none => basesA tb := by unfold basesA; rw [List.foldl_append]; rfl
theorem basesA_ok (tb : List Ta) : (basesA tb).Nodup ∧ (∀ b, b ∈ basesA tb ↔ ∃ e ∈ tb, baseOf e.2 = some b) ∧ (basesA tb).length ≤ tb.length := by
  refine snoc_ind (P := fun tb => (basesA tb).Nodup ∧ (∀ b, b ∈ basesA tb ↔ ∃ e ∈ tb, baseOf e.2 = some b) ∧ (basesA tb).length ≤ tb.length) ?_ ?_ tb
  · exact ⟨List.nodup_nil, fun b => ⟨fun h => (by cases h), fun ⟨e, he, _⟩ => (by cases he)⟩, Nat.le_refl _⟩
  · rintro tb e ⟨h1, h2, h3⟩
    rw [basesA_snoc]
    cases hb : baseOf e.2 with
    | none =>
      refine ⟨h1, fun b => ?_, by show (basesA tb).length ≤ _; rw [List.length_append]; omega⟩
      show b ∈ basesA tb ↔ _
      rw [h2]
      constructor
      · rintro ⟨e', he', h⟩; exact ⟨e', List.mem_append_left _ he', h⟩
      · rintro ⟨e', he', h⟩
        rcases List.mem_append.mp he' with he' | he'
        · exact ⟨e', he', h⟩
        · rw [List.mem_singleton.mp he', hb] at h; cases h
    | some b0 =>
      refine ⟨addU_nd h1, fun b => ?_, by have := addU_len (bs := basesA tb) (b := b0); show (addU (basesA tb) b0).length ≤ _; rw [List.length_append, List.length_singleton]; omega⟩
      show b ∈ addU (basesA tb) b0 ↔ _
      rw [addU_mem, h2]
      constructor
      · rintro (⟨e', he', h⟩ | rfl)
        · exact ⟨e', List.mem_append_left _ he', h⟩
        · exact ⟨e, by simp, hb⟩
      · rintro ⟨e', he', h⟩
        rcases List.mem_append.mp he' with he' | he'
        · exact .inl ⟨e', he', h⟩
        · rw [List.mem_singleton.mp he', hb] at h; exact .inr (Option.some.inj h).symm
end
section
structure Rd (al pl en : List Str) (o : Str) (ed : List Mv) (tb : List Ta) (h : Nat) (ps : List Ba) : Prop where
  km : MachOk al pl
  p6 : pl.length ≤ 6
  mi : MvIn pl al ed
  tab : Tab pl al ed tb
  q : Quiet pl al ed tb
  h3 : h ≤ 3
  ps : ps.Perm (basesA tb)
  o : o ∈ pl
  en : ∀ z ∈ en, z ∈ pl
end
end
end My
end
section
set_option Elab.async false
set_option Elab.async false
set_option linter.all false
set_option autoImplicit false
set_option maxHeartbeats 1000000
set_option maxRecDepth 100000
namespace My
open PySem TL TL.Pl
section
local macro_rules | `(tactic| walk_at "g1") => `(tactic| first
  | ((with_reducible refine okGc ?_); (first | with_reducible refine ok_seq ?_ | with_reducible refine ok_set ?_ | with_reducible refine ok_ret ?_ | with_reducible refine ok_drop ?_ | with_reducible refine ok_if ?_ | with_reducible refine ok_nx ?_ | with_reducible refine ok_sSetL ?_ | with_reducible refine ok_sSetI ?_ | with_reducible refine ok_sSet2 ?_ | with_reducible refine ok_sFldM ?_ | with_reducible refine ok_unp ?_ | with_reducible refine ok_only ?_ | with_reducible refine ok_must ?_ | with_reducible refine ok_for ?_ | with_reducible refine ok_noE ?_))
  | ((with_reducible refine okGt ?_); (first | with_reducible refine ok_get rfl ?_ | with_reducible refine ok_con ?_ | with_reducible refine ok_op2 ?_ | with_reducible refine ok_fnA ?_ | with_reducible refine ok_toI ?_ | with_reducible refine ok_callA ?_ | with_reducible refine ok_callL ?_ | with_reducible refine ok_op1 ?_ | with_reducible refine ok_mv rfl ?_ | with_reducible refine ok_newA ?_ | with_reducible refine ok_newI ?_ | with_reducible refine ok_toS ?_ | with_reducible refine ok_isa ?_ | with_reducible refine ok_isaI ?_ | with_reducible refine ok_isaO ?_ | with_reducible refine ok_fld ?_ | with_reducible refine ok_chain ?_ | with_reducible refine ok_andM ?_ | with_reducible refine ok_orM ?_ | with_reducible refine ok_notM ?_ | with_reducible refine ok_makeA ?_ | with_reducible refine ok_cutN ?_ | with_reducible refine ok_cutI ?_ | with_reducible refine ok_get1M ?_ | with_reducible refine ok_ifE ?_ | with_reducible refine ok_appS ?_ | with_reducible refine ok_sLc ?_ | with_reducible refine ok_sDc ?_ | with_reducible refine ok_clearM ?_ | with_reducible refine ok_sApp2 ?_ | with_reducible refine ok_sClear2 ?_ | with_reducible refine ok_strM ?_ | with_reducible refine ok_tupA ?_ | with_reducible refine ok_catTA ?_ | with_reducible refine ok_revI ?_ | with_reducible refine ok_inO ?_ | with_reducible refine ok_ixO ?_ | with_reducible refine ok_repM ?_ | with_reducible refine ok_repTA ?_ | with_reducible refine ok_mvA ?_ | with_reducible refine ok_sAddS ?_ | with_reducible refine ok_set1M ?_ | with_reducible refine ok_noE ?_))
  | ((with_reducible refine okGl ?_); (first | with_reducible refine ok_cons ?_ | with_reducible refine ok_nil ?_ | with_reducible refine ok_elems ?_ | with_reducible refine ok_selfA ?_ | with_reducible refine ok_propA ?_ | with_reducible refine ok_rng1 ?_ | with_reducible refine ok_rng2 ?_ | with_reducible refine ok_enum ?_ | with_reducible refine ok_valsM ?_ | with_reducible refine ok_starM ?_ | with_reducible refine ok_starFM ?_ | with_reducible refine ok_noE ?_))
  | ((with_reducible refine okGb ?_); (first | with_reducible refine ok_tst ?_ | with_reducible refine ok_andT ?_ | with_reducible refine ok_orT ?_ | with_reducible refine ok_notT ?_ | with_reducible refine ok_truT ?_ | with_reducible refine ok_noE ?_))
  | ((with_reducible refine okGo ?_); (first | with_reducible refine ok_noPart ?_ | with_reducible refine ok_part ?_))
  | ((with_reducible refine okGu ?_); (first | with_reducible refine ok_putT2 ?_ | with_reducible refine ok_putT3 ?_))
  | ((with_reducible refine w1G ?_); (first | ((with_reducible refine gGet ?_); (first | with_reducible refine w1 (v_p0 _ _ _ _) ?_ | with_reducible refine w1 (v_p1 _ _ _ _) ?_ | with_reducible refine w1 (v_p2 _ _ _ _) ?_ | with_reducible refine w1 (v_p3 _ _ _ _) ?_ | with_reducible refine w1 (key_fst _) ?_ | with_reducible refine w1 (key_snd _) ?_)) | ((with_reducible refine gFld ?_); (first | with_reducible refine w1 (v_al _ _ _ _ _) ?_ | with_reducible refine w1 (v_or _ _ _ _ _) ?_ | with_reducible refine w1 (v_ed _ _ _ _ _) ?_ | with_reducible refine w1 (v_en _ _ _ _ _) ?_ | with_reducible refine w1 (v_pl _ _ _ _ _) ?_)) | ((with_reducible refine gCls ?_); (first | with_reducible refine w1 (v_cm _ _ _ _ _) ?_)) | ((with_reducible refine gTup ?_); (first | with_reducible refine w1 (v_key _ _) ?_ | with_reducible refine w1 (v_tup0) ?_)) | ((with_reducible refine gLen ?_); (first | with_reducible refine w1 (v_len _) ?_ | with_reducible refine w1 (v_lenT _) ?_ | with_reducible refine w1 (v_lenM _) ?_)) | ((with_reducible refine gLt ?_); (first | with_reducible refine w1 (v_lt _ _) ?_)) | ((with_reducible refine gLe ?_); (first | with_reducible refine w1 (v_le _ _) ?_)) | ((with_reducible refine gGt ?_); (first | with_reducible refine w1 (v_gt _ _) ?_)) | ((with_reducible refine gGe ?_); (first | with_reducible refine w1 (v_ge _ _) ?_)) | ((with_reducible refine gAdd ?_); (first | with_reducible refine w1 (v_add _ _) ?_)) | ((with_reducible refine gSub ?_); (first | with_reducible refine w1 (v_sub _ _) ?_)) | ((with_reducible refine gEq ?_); (first | with_reducible refine w1 (v_eqI _ _) ?_ | with_reducible refine w1 (eq_strs _ _) ?_)) | ((with_reducible refine gNe ?_); (first | with_reducible refine w1 (v_neI _ _) ?_ | with_reducible refine w1 (v_neS _ _) ?_)) | ((with_reducible refine gIn ?_); (first | with_reducible refine w1 (in_strs _ _) ?_ | with_reducible refine w1 (v_inM _ _) ?_ | with_reducible refine w1 (v_inO _ _) ?_)) | ((with_reducible refine gNin ?_); (first | with_reducible refine w1 (notIn_strs _ _) ?_ | with_reducible refine w1 (v_notInM _ _) ?_)) | ((with_reducible refine gIs ?_); (first | with_reducible refine w1 (v_isO _) ?_ | with_reducible refine w1 (v_isS _) ?_ | with_reducible refine w1 (v_isN) ?_ | with_reducible refine w1 (v_isI _) ?_)) | ((with_reducible refine gNis ?_); (first | with_reducible refine w1 (v_notO _) ?_ | with_reducible refine w1 (v_notS _) ?_ | with_reducible refine w1 (v_notN) ?_ | with_reducible refine w1 (v_notI _) ?_)) | ((with_reducible refine gList ?_); (first | with_reducible refine w1 (v_list _) ?_ | with_reducible refine w1 (v_listR _) ?_)) | ((with_reducible refine gEl ?_); (first | with_reducible refine w1 (v_el _) ?_ | with_reducible refine w1 (v_elR _) ?_ | with_reducible refine w1 (elems_moves _) ?_)) | ((with_reducible refine gLst ?_); (first | with_reducible refine w1 (v_lst0) ?_))))
  | ((with_reducible refine gImm ?_); (first | with_reducible refine v_imS ?_ | with_reducible refine v_imI ?_ | with_reducible refine v_imN ?_ | with_reducible refine v_imB ?_ | with_reducible refine v_imO ?_ | with_reducible refine v_imK ?_ | with_reducible refine v_imR ?_))
  | ((with_reducible refine gEx ?_); (first | with_reducible refine wb ?_ | with_reducible refine wstr ?_ | with_reducible refine v_mvs _ ?_ | with_reducible refine v_kk _ ?_))
  | ((with_reducible refine gIf ?_); (first | with_reducible refine iTrue ?_ | with_reducible refine iFalse ?_ | refine iF (show _ = false from rfl) ?_ | refine iT (show _ = true from rfl) ?_))
  | simp only [List.set_cons_zero, List.set_cons_succ]
  | dsimp only)
local macro_rules | `(tactic| walk_at "go") => `(tactic| repeat (first
  | ((with_reducible refine okGc ?_); (first | with_reducible refine ok_seq ?_ | with_reducible refine ok_set ?_ | with_reducible refine ok_ret ?_ | with_reducible refine ok_drop ?_ | with_reducible refine ok_if ?_ | with_reducible refine ok_nx ?_ | with_reducible refine ok_sSetL ?_ | with_reducible refine ok_sSetI ?_ | with_reducible refine ok_sSet2 ?_ | with_reducible refine ok_sFldM ?_ | with_reducible refine ok_unp ?_ | with_reducible refine ok_only ?_ | with_reducible refine ok_must ?_ | with_reducible refine ok_for ?_ | with_reducible refine ok_noE ?_))
  | ((with_reducible refine okGt ?_); (first | with_reducible refine ok_get rfl ?_ | with_reducible refine ok_con ?_ | with_reducible refine ok_op2 ?_ | with_reducible refine ok_fnA ?_ | with_reducible refine ok_toI ?_ | with_reducible refine ok_callA ?_ | with_reducible refine ok_callL ?_ | with_reducible refine ok_op1 ?_ | with_reducible refine ok_mv rfl ?_ | with_reducible refine ok_newA ?_ | with_reducible refine ok_newI ?_ | with_reducible refine ok_toS ?_ | with_reducible refine ok_isa ?_ | with_reducible refine ok_isaI ?_ | with_reducible refine ok_isaO ?_ | with_reducible refine ok_fld ?_ | with_reducible refine ok_chain ?_ | with_reducible refine ok_andM ?_ | with_reducible refine ok_orM ?_ | with_reducible refine ok_notM ?_ | with_reducible refine ok_makeA ?_ | with_reducible refine ok_cutN ?_ | with_reducible refine ok_cutI ?_ | with_reducible refine ok_get1M ?_ | with_reducible refine ok_ifE ?_ | with_reducible refine ok_appS ?_ | with_reducible refine ok_sLc ?_ | with_reducible refine ok_sDc ?_ | with_reducible refine ok_clearM ?_ | with_reducible refine ok_sApp2 ?_ | with_reducible refine ok_sClear2 ?_ | with_reducible refine ok_strM ?_ | with_reducible refine ok_tupA ?_ | with_reducible refine ok_catTA ?_ | with_reducible refine ok_revI ?_ | with_reducible refine ok_inO ?_ | with_reducible refine ok_ixO ?_ | with_reducible refine ok_repM ?_ | with_reducible refine ok_repTA ?_ | with_reducible refine ok_mvA ?_ | with_reducible refine ok_sAddS ?_ | with_reducible refine ok_set1M ?_ | with_reducible refine ok_noE ?_))
  | ((with_reducible refine okGl ?_); (first | with_reducible refine ok_cons ?_ | with_reducible refine ok_nil ?_ | with_reducible refine ok_elems ?_ | with_reducible refine ok_selfA ?_ | with_reducible refine ok_propA ?_ | with_reducible refine ok_rng1 ?_ | with_reducible refine ok_rng2 ?_ | with_reducible refine ok_enum ?_ | with_reducible refine ok_valsM ?_ | with_reducible refine ok_starM ?_ | with_reducible refine ok_starFM ?_ | with_reducible refine ok_noE ?_))
  | ((with_reducible refine okGb ?_); (first | with_reducible refine ok_tst ?_ | with_reducible refine ok_andT ?_ | with_reducible refine ok_orT ?_ | with_reducible refine ok_notT ?_ | with_reducible refine ok_truT ?_ | with_reducible refine ok_noE ?_))
  | ((with_reducible refine okGo ?_); (first | with_reducible refine ok_noPart ?_ | with_reducible refine ok_part ?_))
  | ((with_reducible refine okGu ?_); (first | with_reducible refine ok_putT2 ?_ | with_reducible refine ok_putT3 ?_))
  | ((with_reducible refine w1G ?_); (first | ((with_reducible refine gGet ?_); (first | with_reducible refine w1 (v_p0 _ _ _ _) ?_ | with_reducible refine w1 (v_p1 _ _ _ _) ?_ | with_reducible refine w1 (v_p2 _ _ _ _) ?_ | with_reducible refine w1 (v_p3 _ _ _ _) ?_ | with_reducible refine w1 (key_fst _) ?_ | with_reducible refine w1 (key_snd _) ?_)) | ((with_reducible refine gFld ?_); (first | with_reducible refine w1 (v_al _ _ _ _ _) ?_ | with_reducible refine w1 (v_or _ _ _ _ _) ?_ | with_reducible refine w1 (v_ed _ _ _ _ _) ?_ | with_reducible refine w1 (v_en _ _ _ _ _) ?_ | with_reducible refine w1 (v_pl _ _ _ _ _) ?_)) | ((with_reducible refine gCls ?_); (first | with_reducible refine w1 (v_cm _ _ _ _ _) ?_)) | ((with_reducible refine gTup ?_); (first | with_reducible refine w1 (v_key _ _) ?_ | with_reducible refine w1 (v_tup0) ?_)) | ((with_reducible refine gLen ?_); (first | with_reducible refine w1 (v_len _) ?_ | with_reducible refine w1 (v_lenT _) ?_ | with_reducible refine w1 (v_lenM _) ?_)) | ((with_reducible refine gLt ?_); (first | with_reducible refine w1 (v_lt _ _) ?_)) | ((with_reducible refine gLe ?_); (first | with_reducible refine w1 (v_le _ _) ?_)) | ((with_reducible refine gGt ?_); (first | with_reducible refine w1 (v_gt _ _) ?_)) | ((with_reducible refine gGe ?_); (first | with_reducible refine w1 (v_ge _ _) ?_)) | ((with_reducible refine gAdd ?_); (first | with_reducible refine w1 (v_add _ _) ?_)) | ((with_reducible refine gSub ?_); (first | with_reducible refine w1 (v_sub _ _) ?_)) | ((with_reducible refine gEq ?_); (first | with_reducible refine w1 (v_eqI _ _) ?_ | with_reducible refine w1 (eq_strs _ _) ?_)) | ((with_reducible refine gNe ?_); (first | with_reducible refine w1 (v_neI _ _) ?_ | with_reducible refine w1 (v_neS _ _) ?_)) | ((with_reducible refine gIn ?_); (first | with_reducible refine w1 (in_strs _ _) ?_ | with_reducible refine w1 (v_inM _ _) ?_ | with_reducible refine w1 (v_inO _ _) ?_)) | ((with_reducible refine gNin ?_); (first | with_reducible refine w1 (notIn_strs _ _) ?_ | with_reducible refine w1 (v_notInM _ _) ?_)) | ((with_reducible refine gIs ?_); (first | with_reducible refine w1 (v_isO _) ?_ | with_reducible refine w1 (v_isS _) ?_ | with_reducible refine w1 (v_isN) ?_ | with_reducible refine w1 (v_isI _) ?_)) | ((with_reducible refine gNis ?_); (first | with_reducible refine w1 (v_notO _) ?_ | with_reducible refine w1 (v_notS _) ?_ | with_reducible refine w1 (v_notN) ?_ | with_reducible refine w1 (v_notI _) ?_)) | ((with_reducible refine gList ?_); (first | with_reducible refine w1 (v_list _) ?_ | with_reducible refine w1 (v_listR _) ?_)) | ((with_reducible refine gEl ?_); (first | with_reducible refine w1 (v_el _) ?_ | with_reducible refine w1 (v_elR _) ?_ | with_reducible refine w1 (elems_moves _) ?_)) | ((with_reducible refine gLst ?_); (first | with_reducible refine w1 (v_lst0) ?_))))
  | ((with_reducible refine gImm ?_); (first | with_reducible refine v_imS ?_ | with_reducible refine v_imI ?_ | with_reducible refine v_imN ?_ | with_reducible refine v_imB ?_ | with_reducible refine v_imO ?_ | with_reducible refine v_imK ?_ | with_reducible refine v_imR ?_))
  | ((with_reducible refine gEx ?_); (first | with_reducible refine wb ?_ | with_reducible refine wstr ?_ | with_reducible refine v_mvs _ ?_ | with_reducible refine v_kk _ ?_))
  | ((with_reducible refine gIf ?_); (first | with_reducible refine iTrue ?_ | with_reducible refine iFalse ?_ | refine iF (show _ = false from rfl) ?_ | refine iT (show _ = true from rfl) ?_))
  | simp only [List.set_cons_zero, List.set_cons_succ]
  | dsimp only))
local macro_rules | `(tactic| walk_at "gw") => `(tactic| repeat (first | walk_at "g1" | ((with_reducible refine w1G ?_); refine w1 (by exact rfl) ?_)))
section
abbrev Conf := Str × List Str × Nat
end
section
/-- a configuration of the reader -/
structure CfOk (al pl : List Str) (tb : List Ta) (h : Nat) (c : Conf) : Prop where
  s : c.1 ∈ pl
  q : c.2.2 ≤ h
  w : c.2.1 = [] ∨ (c.1, c.2.1) ∈ basesA tb
theorem Rd.base {al pl en : List Str} {o : Str} {ed : List Mv} {tb : List Ta} {h : Nat} {ps : List Ba} (R : Rd al pl en o ed tb h ps) {b : Ba} (hb : b ∈ basesA tb) : b.1 ∈ pl ∧ b.2 ≠ [] ∧ b.2.Sublist al := by
  obtain ⟨e, he, hbe⟩ := ((basesA_ok tb).2.1 b).mp hb
  have := R.tab.ok e he
  cases ha : e.2 with
  | pass ts z =>
    rw [ha] at this hbe
    cases hbe; exact this
  | _ => rw [ha] at hbe; cases hbe
theorem CfOk.names {al pl en : List Str} {o : Str} {ed : List Mv} {tb : List Ta} {h : Nat} {ps : List Ba} (R : Rd al pl en o ed tb h ps) {c : Conf} (hc : CfOk al pl tb h c) : ∀ z ∈ c.2.1, z ∈ al := by
  intro z hz
  rcases hc.w with e | e
  · rw [e] at hz; cases hz
  · exact (R.base e).2.2.subset hz
end
section
theorem CfOk.len {al pl en : List Str} {o : Str} {ed : List Mv} {tb : List Ta} {h : Nat} {ps : List Ba} (R : Rd al pl en o ed tb h ps) {c : Conf} (hc : CfOk al pl tb h c) : c.2.1.length ≤ 4 := by
  rcases hc.w with e | e
  · rw [e]; exact Nat.zero_le _
  · exact Nat.le_trans (R.base e).2.2.length_le R.km.a4
end
section
/-- the place without a move -/
def Gap (ms : List Mv) (o : Str) (row : List Str) (k : Nat) : Prop := ∃ z t, runM ms (some o) (row.take k) = some z ∧ row[k]? = some t ∧ lookM ms (z, t) = none
theorem Gap.stop {ms : List Mv} {o : Str} {row : List Str} {k : Nat} (h : Gap ms o row k) : runM ms (some o) (row.take (k + 1)) = none := by
  obtain ⟨z, t, h1, h2, h3⟩ := h
  rw [List.take_succ, h2]
  show runM ms (some o) (row.take k ++ [t]) = none
  rw [runM_snoc, h1]; exact h3
end
end
section
local macro_rules | `(tactic| walk_at "g1") => `(tactic| first
  | ((with_reducible refine okGc ?_); (first | with_reducible refine ok_seq ?_ | with_reducible refine ok_set ?_ | with_reducible refine ok_ret ?_ | with_reducible refine ok_drop ?_ | with_reducible refine ok_if ?_ | with_reducible refine ok_nx ?_ | with_reducible refine ok_sSetL ?_ | with_reducible refine ok_sSetI ?_ | with_reducible refine ok_sSet2 ?_ | with_reducible refine ok_sFldM ?_ | with_reducible refine ok_unp ?_ | with_reducible refine ok_only ?_ | with_reducible refine ok_must ?_ | with_reducible refine ok_for ?_ | with_reducible refine ok_noE ?_))
  | ((with_reducible refine okGt ?_); (first | with_reducible refine ok_get rfl ?_ | with_reducible refine ok_con ?_ | with_reducible refine ok_op2 ?_ | with_reducible refine ok_fnA ?_ | with_reducible refine ok_toI ?_ | with_reducible refine ok_callA ?_ | with_reducible refine ok_callL ?_ | with_reducible refine ok_op1 ?_ | with_reducible refine ok_mv rfl ?_ | with_reducible refine ok_newA ?_ | with_reducible refine ok_newI ?_ | with_reducible refine ok_toS ?_ | with_reducible refine ok_isa ?_ | with_reducible refine ok_isaI ?_ | with_reducible refine ok_isaO ?_ | with_reducible refine ok_fld ?_ | with_reducible refine ok_chain ?_ | with_reducible refine ok_andM ?_ | with_reducible refine ok_orM ?_ | with_reducible refine ok_notM ?_ | with_reducible refine ok_makeA ?_ | with_reducible refine ok_cutN ?_ | with_reducible refine ok_cutI ?_ | with_reducible refine ok_get1M ?_ | with_reducible refine ok_ifE ?_ | with_reducible refine ok_appS ?_ | with_reducible refine ok_sLc ?_ | with_reducible refine ok_sDc ?_ | with_reducible refine ok_clearM ?_ | with_reducible refine ok_sApp2 ?_ | with_reducible refine ok_sClear2 ?_ | with_reducible refine ok_strM ?_ | with_reducible refine ok_tupA ?_ | with_reducible refine ok_catTA ?_ | with_reducible refine ok_revI ?_ | with_reducible refine ok_inO ?_ | with_reducible refine ok_ixO ?_ | with_reducible refine ok_repM ?_ | with_reducible refine ok_repTA ?_ | with_reducible refine ok_mvA ?_ | with_reducible refine ok_sAddS ?_ | with_reducible refine ok_set1M ?_ | with_reducible refine ok_noE ?_))
  | ((with_reducible refine okGl ?_); (first | with_reducible refine ok_cons ?_ | with_reducible refine ok_nil ?_ | with_reducible refine ok_elems ?_ | with_reducible refine ok_selfA ?_ | with_reducible refine ok_propA ?_ | with_reducible refine ok_rng1 ?_ | with_reducible refine ok_rng2 ?_ | with_reducible refine ok_enum ?_ | with_reducible refine ok_valsM ?_ | with_reducible refine ok_starM ?_ | with_reducible refine ok_starFM ?_ | with_reducible refine ok_noE ?_))
  | ((with_reducible refine okGb ?_); (first | with_reducible refine ok_tst ?_ | with_reducible refine ok_andT ?_ | with_reducible refine ok_orT ?_ | with_reducible refine ok_notT ?_ | with_reducible refine ok_truT ?_ | with_reducible refine ok_noE ?_))
  | ((with_reducible refine okGo ?_); (first | with_reducible refine ok_noPart ?_ | with_reducible refine ok_part ?_))
  | ((with_reducible refine okGu ?_); (first | with_reducible refine ok_putT2 ?_ | with_reducible refine ok_putT3 ?_))
  | ((with_reducible refine w1G ?_); (first | ((with_reducible refine gGet ?_); (first | with_reducible refine w1 (v_p0 _ _ _ _) ?_ | with_reducible refine w1 (v_p1 _ _ _ _) ?_ | with_reducible refine w1 (v_p2 _ _ _ _) ?_ | with_reducible refine w1 (v_p3 _ _ _ _) ?_ | with_reducible refine w1 (key_fst _) ?_ | with_reducible refine w1 (key_snd _) ?_)) | ((with_reducible refine gFld ?_); (first | with_reducible refine w1 (v_al _ _ _ _ _) ?_ | with_reducible refine w1 (v_or _ _ _ _ _) ?_ | with_reducible refine w1 (v_ed _ _ _ _ _) ?_ | with_reducible refine w1 (v_en _ _ _ _ _) ?_ | with_reducible refine w1 (v_pl _ _ _ _ _) ?_)) | ((with_reducible refine gCls ?_); (first | with_reducible refine w1 (v_cm _ _ _ _ _) ?_)) | ((with_reducible refine gTup ?_); (first | with_reducible refine w1 (v_key _ _) ?_ | with_reducible refine w1 (v_tup0) ?_)) | ((with_reducible refine gLen ?_); (first | with_reducible refine w1 (v_len _) ?_ | with_reducible refine w1 (v_lenT _) ?_ | with_reducible refine w1 (v_lenM _) ?_)) | ((with_reducible refine gLt ?_); (first | with_reducible refine w1 (v_lt _ _) ?_)) | ((with_reducible refine gLe ?_); (first | with_reducible refine w1 (v_le _ _) ?_)) | ((with_reducible refine gGt ?_); (first | with_reducible refine w1 (v_gt _ _) ?_)) | ((with_reducible refine gGe ?_); (first | with_reducible refine w1 (v_ge _ _) ?_)) | ((with_reducible refine gAdd ?_); (first | with_reducible refine w1 (v_add _ _) ?_)) | ((with_reducible refine gSub ?_); (first | with_reducible refine w1 (v_sub _ _) ?_)) | ((with_reducible refine gEq ?_); (first | with_reducible refine w1 (v_eqI _ _) ?_ | with_reducible refine w1 (eq_strs _ _) ?_)) | ((with_reducible refine gNe ?_); (first | with_reducible refine w1 (v_neI _ _) ?_ | with_reducible refine w1 (v_neS _ _) ?_)) | ((with_reducible refine gIn ?_); (first | with_reducible refine w1 (in_strs _ _) ?_ | with_reducible refine w1 (v_inM _ _) ?_ | with_reducible refine w1 (v_inO _ _) ?_)) | ((with_reducible refine gNin ?_); (first | with_reducible refine w1 (notIn_strs _ _) ?_ | with_reducible refine w1 (v_notInM _ _) ?_)) | ((with_reducible refine gIs ?_); (first | with_reducible refine w1 (v_isO _) ?_ | with_reducible refine w1 (v_isS _) ?_ | with_reducible refine w1 (v_isN) ?_ | with_reducible refine w1 (v_isI _) ?_)) | ((with_reducible refine gNis ?_); (first | with_reducible refine w1 (v_notO _) ?_ | with_reducible refine w1 (v_notS _) ?_ | with_reducible refine w1 (v_notN) ?_ | with_reducible refine w1 (v_notI _) ?_)) | ((with_reducible refine gList ?_); (first | with_reducible refine w1 (v_list _) ?_ | with_reducible refine w1 (v_listR _) ?_)) | ((with_reducible refine gEl ?_); (first | with_reducible refine w1 (v_el _) ?_ | with_reducible refine w1 (v_elR _) ?_ | with_reducible refine w1 (elems_moves _) ?_)) | ((with_reducible refine gLst ?_); (first | with_reducible refine w1 (v_lst0) ?_))))
  | ((with_reducible refine gImm ?_); (first | with_reducible refine v_imS ?_ | with_reducible refine v_imI ?_ | with_reducible refine v_imN ?_ | with_reducible refine v_imB ?_ | with_reducible refine v_imO ?_ | with_reducible refine v_imK ?_ | with_reducible refine v_imR ?_))
  | ((with_reducible refine gEx ?_); (first | with_reducible refine wb ?_ | with_reducible refine wstr ?_ | with_reducible refine v_mvs _ ?_ | with_reducible refine v_kk _ ?_))
  | ((with_reducible refine gIf ?_); (first | with_reducible refine iTrue ?_ | with_reducible refine iFalse ?_ | refine iF (show _ = false from rfl) ?_ | refine iT (show _ = true from rfl) ?_))
  | simp only [List.set_cons_zero, List.set_cons_succ]
  | dsimp only)
local macro_rules | `(tactic| walk_at "go") => `(tactic| repeat (first
  | ((with_reducible refine okGc ?_); (first | with_reducible refine ok_seq ?_ | with_reducible refine ok_set ?_ | with_reducible refine ok_ret ?_ | with_reducible refine ok_drop ?_ | with_reducible refine ok_if ?_ | with_reducible refine ok_nx ?_ | with_reducible refine ok_sSetL ?_ | with_reducible refine ok_sSetI ?_ | with_reducible refine ok_sSet2 ?_ | with_reducible refine ok_sFldM ?_ | with_reducible refine ok_unp ?_ | with_reducible refine ok_only ?_ | with_reducible refine ok_must ?_ | with_reducible refine ok_for ?_ | with_reducible refine ok_noE ?_))
  | ((with_reducible refine okGt ?_); (first | with_reducible refine ok_get rfl ?_ | with_reducible refine ok_con ?_ | with_reducible refine ok_op2 ?_ | with_reducible refine ok_fnA ?_ | with_reducible refine ok_toI ?_ | with_reducible refine ok_callA ?_ | with_reducible refine ok_callL ?_ | with_reducible refine ok_op1 ?_ | with_reducible refine ok_mv rfl ?_ | with_reducible refine ok_newA ?_ | with_reducible refine ok_newI ?_ | with_reducible refine ok_toS ?_ | with_reducible refine ok_isa ?_ | with_reducible refine ok_isaI ?_ | with_reducible refine ok_isaO ?_ | with_reducible refine ok_fld ?_ | with_reducible refine ok_chain ?_ | with_reducible refine ok_andM ?_ | with_reducible refine ok_orM ?_ | with_reducible refine ok_notM ?_ | with_reducible refine ok_makeA ?_ | with_reducible refine ok_cutN ?_ | with_reducible refine ok_cutI ?_ | with_reducible refine ok_get1M ?_ | with_reducible refine ok_ifE ?_ | with_reducible refine ok_appS ?_ | with_reducible refine ok_sLc ?_ | with_reducible refine ok_sDc ?_ | with_reducible refine ok_clearM ?_ | with_reducible refine ok_sApp2 ?_ | with_reducible refine ok_sClear2 ?_ | with_reducible refine ok_strM ?_ | with_reducible refine ok_tupA ?_ | with_reducible refine ok_catTA ?_ | with_reducible refine ok_revI ?_ | with_reducible refine ok_inO ?_ | with_reducible refine ok_ixO ?_ | with_reducible refine ok_repM ?_ | with_reducible refine ok_repTA ?_ | with_reducible refine ok_mvA ?_ | with_reducible refine ok_sAddS ?_ | with_reducible refine ok_set1M ?_ | with_reducible refine ok_noE ?_))
  | ((with_reducible refine okGl ?_); (first | with_reducible refine ok_cons ?_ | with_reducible refine ok_nil ?_ | with_reducible refine ok_elems ?_ | with_reducible refine ok_selfA ?_ | with_reducible refine ok_propA ?_ | with_reducible refine ok_rng1 ?_ | with_reducible refine ok_rng2 ?_ | with_reducible refine ok_enum ?_ | with_reducible refine ok_valsM ?_ | with_reducible refine ok_starM ?_ | with_reducible refine ok_starFM ?_ | with_reducible refine ok_noE ?_))
  | ((with_reducible refine okGb ?_); (first | with_reducible refine ok_tst ?_ | with_reducible refine ok_andT ?_ | with_reducible refine ok_orT ?_ | with_reducible refine ok_notT ?_ | with_reducible refine ok_truT ?_ | with_reducible refine ok_noE ?_))
  | ((with_reducible refine okGo ?_); (first | with_reducible refine ok_noPart ?_ | with_reducible refine ok_part ?_))
  | ((with_reducible refine okGu ?_); (first | with_reducible refine ok_putT2 ?_ | with_reducible refine ok_putT3 ?_))
  | ((with_reducible refine w1G ?_); (first | ((with_reducible refine gGet ?_); (first | with_reducible refine w1 (v_p0 _ _ _ _) ?_ | with_reducible refine w1 (v_p1 _ _ _ _) ?_ | with_reducible refine w1 (v_p2 _ _ _ _) ?_ | with_reducible refine w1 (v_p3 _ _ _ _) ?_ | with_reducible refine w1 (key_fst _) ?_ | with_reducible refine w1 (key_snd _) ?_)) | ((with_reducible refine gFld ?_); (first | with_reducible refine w1 (v_al _ _ _ _ _) ?_ | with_reducible refine w1 (v_or _ _ _ _ _) ?_ | with_reducible refine w1 (v_ed _ _ _ _ _) ?_ | with_reducible refine w1 (v_en _ _ _ _ _) ?_ | with_reducible refine w1 (v_pl _ _ _ _ _) ?_)) | ((with_reducible refine gCls ?_); (first | with_reducible refine w1 (v_cm _ _ _ _ _) ?_)) | ((with_reducible refine gTup ?_); (first | with_reducible refine w1 (v_key _ _) ?_ | with_reducible refine w1 (v_tup0) ?_)) | ((with_reducible refine gLen ?_); (first | with_reducible refine w1 (v_len _) ?_ | with_reducible refine w1 (v_lenT _) ?_ | with_reducible refine w1 (v_lenM _) ?_)) | ((with_reducible refine gLt ?_); (first | with_reducible refine w1 (v_lt _ _) ?_)) | ((with_reducible refine gLe ?_); (first | with_reducible refine w1 (v_le _ _) ?_)) | ((with_reducible refine gGt ?_); (first | with_reducible refine w1 (v_gt _ _) ?_)) | ((with_reducible refine gGe ?_); (first | with_reducible refine w1 (v_ge _ _) ?_)) | ((with_reducible refine gAdd ?_); (first | with_reducible refine w1 (v_add _ _) ?_)) | ((with_reducible refine gSub ?_); (first | with_reducible refine w1 (v_sub _ _) ?_)) | ((with_reducible refine gEq ?_); (first | with_reducible refine w1 (v_eqI _ _) ?_ | with_reducible refine w1 (eq_strs _ _) ?_)) | ((with_reducible refine gNe ?_); (first | with_reducible refine w1 (v_neI _ _) ?_ | with_reducible refine w1 (v_neS _ _) ?_)) | ((with_reducible refine gIn ?_); (first | with_reducible refine w1 (in_strs _ _) ?_ | with_reducible refine w1 (v_inM _ _) ?_ | with_reducible refine w1 (v_inO _ _) ?_)) | ((with_reducible refine gNin ?_); (first | with_reducible refine w1 (notIn_strs _ _) ?_ | with_reducible refine w1 (v_notInM _ _) ?_)) | ((with_reducible refine gIs ?_); (first | with_reducible refine w1 (v_isO _) ?_ | with_reducible refine w1 (v_isS _) ?_ | with_reducible refine w1 (v_isN) ?_ | with_reducible refine w1 (v_isI _) ?_)) | ((with_reducible refine gNis ?_); (first | with_reducible refine w1 (v_notO _) ?_ | with_reducible refine w1 (v_notS _) ?_ | with_reducible refine w1 (v_notN) ?_ | with_reducible refine w1 (v_notI _) ?_)) | ((with_reducible refine gList ?_); (first | with_reducible refine w1 (v_list _) ?_ | with_reducible refine w1 (v_listR _) ?_)) | ((with_reducible refine gEl ?_); (first | with_reducible refine w1 (v_el _) ?_ | with_reducible refine w1 (v_elR _) ?_ | with_reducible refine w1 (elems_moves _) ?_)) | ((with_reducible refine gLst ?_); (first | with_reducible refine w1 (v_lst0) ?_))))
  | ((with_reducible refine gImm ?_); (first | with_reducible refine v_imS ?_ | with_reducible refine v_imI ?_ | with_reducible refine v_imN ?_ | with_reducible refine v_imB ?_ | with_reducible refine v_imO ?_ | with_reducible refine v_imK ?_ | with_reducible refine v_imR ?_))
  | ((with_reducible refine gEx ?_); (first | with_reducible refine wb ?_ | with_reducible refine wstr ?_ | with_reducible refine v_mvs _ ?_ | with_reducible refine v_kk _ ?_))
  | ((with_reducible refine gIf ?_); (first | with_reducible refine iTrue ?_ | with_reducible refine iFalse ?_ | refine iF (show _ = false from rfl) ?_ | refine iT (show _ = true from rfl) ?_))
  | simp only [List.set_cons_zero, List.set_cons_succ]
  | dsimp only))
local macro_rules | `(tactic| walk_at "gw") => `(tactic| repeat (first | walk_at "g1" | ((with_reducible refine w1G ?_); refine w1 (by exact rfl) ?_)))
local macro_rules | `(tactic| walk_at "gz") => `(tactic| repeat (first
  | walk_at "g1"
  | (with_reducible refine gRng ?_; refine w1 (fRange1_nat (by omega)) ?_)
  | ((with_reducible refine w1G ?_); refine w1 (by exact rfl) ?_)
  | ((with_reducible refine gImm ?_); refine ⟨by exact rfl, ?_⟩)
  | ((with_reducible refine gImms ?_); refine ⟨by exact rfl, ?_⟩)
  | ((with_reducible refine gApp ?_); refine ⟨⟨_, rfl⟩, ?_⟩)
  | ((with_reducible refine gAppX ?_); refine ⟨⟨_, rfl⟩, ?_⟩)
  | ((with_reducible refine gIf ?_); (first | refine iT (by decide +kernel) ?_ | refine iF (by decide +kernel) ?_))
  | ((with_reducible refine gEx ?_); (first | refine ⟨_, by exact rfl, ?_⟩ | refine ⟨_, _, by exact rfl, by exact rfl, ?_⟩))
  | with_reducible refine ok_exI rfl ?_
  | with_reducible refine ok_exF rfl rfl ?_
  | with_reducible refine ok_cutF ?_
  | with_reducible refine ok_tupF ?_))
section
theorem Tab.jump {pl al : List Str} {ms : List Mv} {tb : List Ta} (h : Tab pl al ms tb) {k : Str × Str} (hk : k ∈ tb.map (·.1)) {z : Str} (hz : z ∈ pl) (hne : z ≠ k.1) : Tab pl al ms (putG tb k (.jump z)) := by
  refine ⟨by rw [putG_keys hk]; exact h.keys, fun e he => ?_⟩
  unfold putG at he
  split at he
  · obtain ⟨e', he', rfl⟩ := List.mem_map.mp he
    split
    · rename_i h1
      exact ⟨hz, by show z ≠ e'.1.1; rw [h1]; exact hne⟩
    · exact h.ok e' he'
  · rcases List.mem_append.mp he with he | he
    · exact h.ok e he
    · rw [List.mem_singleton.mp he]; exact ⟨hz, hne⟩
end
end
section
local macro_rules | `(tactic| walk_at "g1") => `(tactic| first
  | ((with_reducible refine okGc ?_); (first | with_reducible refine ok_seq ?_ | with_reducible refine ok_set ?_ | with_reducible refine ok_ret ?_ | with_reducible refine ok_drop ?_ | with_reducible refine ok_if ?_ | with_reducible refine ok_nx ?_ | with_reducible refine ok_sSetL ?_ | with_reducible refine ok_sSetI ?_ | with_reducible refine ok_sSet2 ?_ | with_reducible refine ok_sFldM ?_ | with_reducible refine ok_unp ?_ | with_reducible refine ok_only ?_ | with_reducible refine ok_must ?_ | with_reducible refine ok_for ?_ | with_reducible refine ok_noE ?_))
  | ((with_reducible refine okGt ?_); (first | with_reducible refine ok_get rfl ?_ | with_reducible refine ok_con ?_ | with_reducible refine ok_op2 ?_ | with_reducible refine ok_fnA ?_ | with_reducible refine ok_toI ?_ | with_reducible refine ok_callA ?_ | with_reducible refine ok_callL ?_ | with_reducible refine ok_op1 ?_ | with_reducible refine ok_mv rfl ?_ | with_reducible refine ok_newA ?_ | with_reducible refine ok_newI ?_ | with_reducible refine ok_toS ?_ | with_reducible refine ok_isa ?_ | with_reducible refine ok_isaI ?_ | with_reducible refine ok_isaO ?_ | with_reducible refine ok_fld ?_ | with_reducible refine ok_chain ?_ | with_reducible refine ok_andM ?_ | with_reducible refine ok_orM ?_ | with_reducible refine ok_notM ?_ | with_reducible refine ok_makeA ?_ | with_reducible refine ok_cutN ?_ | with_reducible refine ok_cutI ?_ | with_reducible refine ok_get1M ?_ | with_reducible refine ok_ifE ?_ | with_reducible refine ok_appS ?_ | with_reducible refine ok_sLc ?_ | with_reducible refine ok_sDc ?_ | with_reducible refine ok_clearM ?_ | with_reducible refine ok_sApp2 ?_ | with_reducible refine ok_sClear2 ?_ | with_reducible refine ok_strM ?_ | with_reducible refine ok_tupA ?_ | with_reducible refine ok_catTA ?_ | with_reducible refine ok_revI ?_ | with_reducible refine ok_inO ?_ | with_reducible refine ok_ixO ?_ | with_reducible refine ok_repM ?_ | with_reducible refine ok_repTA ?_ | with_reducible refine ok_mvA ?_ | with_reducible refine ok_sAddS ?_ | with_reducible refine ok_set1M ?_ | with_reducible refine ok_noE ?_))
  | ((with_reducible refine okGl ?_); (first | with_reducible refine ok_cons ?_ | with_reducible refine ok_nil ?_ | with_reducible refine ok_elems ?_ | with_reducible refine ok_selfA ?_ | with_reducible refine ok_propA ?_ | with_reducible refine ok_rng1 ?_ | with_reducible refine ok_rng2 ?_ | with_reducible refine ok_enum ?_ | with_reducible refine ok_valsM ?_ | with_reducible refine ok_starM ?_ | with_reducible refine ok_starFM ?_ | with_reducible refine ok_noE ?_))
  | ((with_reducible refine okGb ?_); (first | with_reducible refine ok_tst ?_ | with_reducible refine ok_andT ?_ | with_reducible refine ok_orT ?_ | with_reducible refine ok_notT ?_ | with_reducible refine ok_truT ?_ | with_reducible refine ok_noE ?_))
  | ((with_reducible refine okGo ?_); (first | with_reducible refine ok_noPart ?_ | with_reducible refine ok_part ?_))
  | ((with_reducible refine okGu ?_); (first | with_reducible refine ok_putT2 ?_ | with_reducible refine ok_putT3 ?_))
  | ((with_reducible refine w1G ?_); (first | ((with_reducible refine gGet ?_); (first | with_reducible refine w1 (v_p0 _ _ _ _) ?_ | with_reducible refine w1 (v_p1 _ _ _ _) ?_ | with_reducible refine w1 (v_p2 _ _ _ _) ?_ | with_reducible refine w1 (v_p3 _ _ _ _) ?_ | with_reducible refine w1 (key_fst _) ?_ | with_reducible refine w1 (key_snd _) ?_)) | ((with_reducible refine gFld ?_); (first | with_reducible refine w1 (v_al _ _ _ _ _) ?_ | with_reducible refine w1 (v_or _ _ _ _ _) ?_ | with_reducible refine w1 (v_ed _ _ _ _ _) ?_ | with_reducible refine w1 (v_en _ _ _ _ _) ?_ | with_reducible refine w1 (v_pl _ _ _ _ _) ?_)) | ((with_reducible refine gCls ?_); (first | with_reducible refine w1 (v_cm _ _ _ _ _) ?_)) | ((with_reducible refine gTup ?_); (first | with_reducible refine w1 (v_key _ _) ?_ | with_reducible refine w1 (v_tup0) ?_)) | ((with_reducible refine gLen ?_); (first | with_reducible refine w1 (v_len _) ?_ | with_reducible refine w1 (v_lenT _) ?_ | with_reducible refine w1 (v_lenM _) ?_)) | ((with_reducible refine gLt ?_); (first | with_reducible refine w1 (v_lt _ _) ?_)) | ((with_reducible refine gLe ?_); (first | with_reducible refine w1 (v_le _ _) ?_)) | ((with_reducible refine gGt ?_); (first | with_reducible refine w1 (v_gt _ _) ?_)) | ((with_reducible refine gGe ?_); (first | with_reducible refine w1 (v_ge _ _) ?_)) | ((with_reducible refine gAdd ?_); (first | with_reducible refine w1 (v_add _ _) ?_)) | ((with_reducible refine gSub ?_); (first | with_reducible refine w1 (v_sub _ _) ?_)) | ((with_reducible refine gEq ?_); (first | with_reducible refine w1 (v_eqI _ _) ?_ | with_reducible refine w1 (eq_strs _ _) ?_)) | ((with_reducible refine gNe ?_); (first | with_reducible refine w1 (v_neI _ _) ?_ | with_reducible refine w1 (v_neS _ _) ?_)) | ((with_reducible refine gIn ?_); (first | with_reducible refine w1 (in_strs _ _) ?_ | with_reducible refine w1 (v_inM _ _) ?_ | with_reducible refine w1 (v_inO _ _) ?_)) | ((with_reducible refine gNin ?_); (first | with_reducible refine w1 (notIn_strs _ _) ?_ | with_reducible refine w1 (v_notInM _ _) ?_)) | ((with_reducible refine gIs ?_); (first | with_reducible refine w1 (v_isO _) ?_ | with_reducible refine w1 (v_isS _) ?_ | with_reducible refine w1 (v_isN) ?_ | with_reducible refine w1 (v_isI _) ?_)) | ((with_reducible refine gNis ?_); (first | with_reducible refine w1 (v_notO _) ?_ | with_reducible refine w1 (v_notS _) ?_ | with_reducible refine w1 (v_notN) ?_ | with_reducible refine w1 (v_notI _) ?_)) | ((with_reducible refine gList ?_); (first | with_reducible refine w1 (v_list _) ?_ | with_reducible refine w1 (v_listR _) ?_)) | ((with_reducible refine gEl ?_); (first | with_reducible refine w1 (v_el _) ?_ | with_reducible refine w1 (v_elR _) ?_ | with_reducible refine w1 (elems_moves _) ?_)) | ((with_reducible refine gLst ?_); (first | with_reducible refine w1 (v_lst0) ?_))))
  | ((with_reducible refine gImm ?_); (first | with_reducible refine v_imS ?_ | with_reducible refine v_imI ?_ | with_reducible refine v_imN ?_ | with_reducible refine v_imB ?_ | with_reducible refine v_imO ?_ | with_reducible refine v_imK ?_ | with_reducible refine v_imR ?_))
  | ((with_reducible refine gEx ?_); (first | with_reducible refine wb ?_ | with_reducible refine wstr ?_ | with_reducible refine v_mvs _ ?_ | with_reducible refine v_kk _ ?_))
  | ((with_reducible refine gIf ?_); (first | with_reducible refine iTrue ?_ | with_reducible refine iFalse ?_ | refine iF (show _ = false from rfl) ?_ | refine iT (show _ = true from rfl) ?_))
  | simp only [List.set_cons_zero, List.set_cons_succ]
  | dsimp only)
local macro_rules | `(tactic| walk_at "go") => `(tactic| repeat (first
  | ((with_reducible refine okGc ?_); (first | with_reducible refine ok_seq ?_ | with_reducible refine ok_set ?_ | with_reducible refine ok_ret ?_ | with_reducible refine ok_drop ?_ | with_reducible refine ok_if ?_ | with_reducible refine ok_nx ?_ | with_reducible refine ok_sSetL ?_ | with_reducible refine ok_sSetI ?_ | with_reducible refine ok_sSet2 ?_ | with_reducible refine ok_sFldM ?_ | with_reducible refine ok_unp ?_ | with_reducible refine ok_only ?_ | with_reducible refine ok_must ?_ | with_reducible refine ok_for ?_ | with_reducible refine ok_noE ?_))
  | ((with_reducible refine okGt ?_); (first | with_reducible refine ok_get rfl ?_ | with_reducible refine ok_con ?_ | with_reducible refine ok_op2 ?_ | with_reducible refine ok_fnA ?_ | with_reducible refine ok_toI ?_ | with_reducible refine ok_callA ?_ | with_reducible refine ok_callL ?_ | with_reducible refine ok_op1 ?_ | with_reducible refine ok_mv rfl ?_ | with_reducible refine ok_newA ?_ | with_reducible refine ok_newI ?_ | with_reducible refine ok_toS ?_ | with_reducible refine ok_isa ?_ | with_reducible refine ok_isaI ?_ | with_reducible refine ok_isaO ?_ | with_reducible refine ok_fld ?_ | with_reducible refine ok_chain ?_ | with_reducible refine ok_andM ?_ | with_reducible refine ok_orM ?_ | with_reducible refine ok_notM ?_ | with_reducible refine ok_makeA ?_ | with_reducible refine ok_cutN ?_ | with_reducible refine ok_cutI ?_ | with_reducible refine ok_get1M ?_ | with_reducible refine ok_ifE ?_ | with_reducible refine ok_appS ?_ | with_reducible refine ok_sLc ?_ | with_reducible refine ok_sDc ?_ | with_reducible refine ok_clearM ?_ | with_reducible refine ok_sApp2 ?_ | with_reducible refine ok_sClear2 ?_ | with_reducible refine ok_strM ?_ | with_reducible refine ok_tupA ?_ | with_reducible refine ok_catTA ?_ | with_reducible refine ok_revI ?_ | with_reducible refine ok_inO ?_ | with_reducible refine ok_ixO ?_ | with_reducible refine ok_repM ?_ | with_reducible refine ok_repTA ?_ | with_reducible refine ok_mvA ?_ | with_reducible refine ok_sAddS ?_ | with_reducible refine ok_set1M ?_ | with_reducible refine ok_noE ?_))
  | ((with_reducible refine okGl ?_); (first | with_reducible refine ok_cons ?_ | with_reducible refine ok_nil ?_ | with_reducible refine ok_elems ?_ | with_reducible refine ok_selfA ?_ | with_reducible refine ok_propA ?_ | with_reducible refine ok_rng1 ?_ | with_reducible refine ok_rng2 ?_ | with_reducible refine ok_enum ?_ | with_reducible refine ok_valsM ?_ | with_reducible refine ok_starM ?_ | with_reducible refine ok_starFM ?_ | with_reducible refine ok_noE ?_))
  | ((with_reducible refine okGb ?_); (first | with_reducible refine ok_tst ?_ | with_reducible refine ok_andT ?_ | with_reducible refine ok_orT ?_ | with_reducible refine ok_notT ?_ | with_reducible refine ok_truT ?_ | with_reducible refine ok_noE ?_))
  | ((with_reducible refine okGo ?_); (first | with_reducible refine ok_noPart ?_ | with_reducible refine ok_part ?_))
  | ((with_reducible refine okGu ?_); (first | with_reducible refine ok_putT2 ?_ | with_reducible refine ok_putT3 ?_))
  | ((with_reducible refine w1G ?_); (first | ((with_reducible refine gGet ?_); (first | with_reducible refine w1 (v_p0 _ _ _ _) ?_ | with_reducible refine w1 (v_p1 _ _ _ _) ?_ | with_reducible refine w1 (v_p2 _ _ _ _) ?_ | with_reducible refine w1 (v_p3 _ _ _ _) ?_ | with_reducible refine w1 (key_fst _) ?_ | with_reducible refine w1 (key_snd _) ?_)) | ((with_reducible refine gFld ?_); (first | with_reducible refine w1 (v_al _ _ _ _ _) ?_ | with_reducible refine w1 (v_or _ _ _ _ _) ?_ | with_reducible refine w1 (v_ed _ _ _ _ _) ?_ | with_reducible refine w1 (v_en _ _ _ _ _) ?_ | with_reducible refine w1 (v_pl _ _ _ _ _) ?_)) | ((with_reducible refine gCls ?_); (first | with_reducible refine w1 (v_cm _ _ _ _ _) ?_)) | ((with_reducible refine gTup ?_); (first | with_reducible refine w1 (v_key _ _) ?_ | with_reducible refine w1 (v_tup0) ?_)) | ((with_reducible refine gLen ?_); (first | with_reducible refine w1 (v_len _) ?_ | with_reducible refine w1 (v_lenT _) ?_ | with_reducible refine w1 (v_lenM _) ?_)) | ((with_reducible refine gLt ?_); (first | with_reducible refine w1 (v_lt _ _) ?_)) | ((with_reducible refine gLe ?_); (first | with_reducible refine w1 (v_le _ _) ?_)) | ((with_reducible refine gGt ?_); (first | with_reducible refine w1 (v_gt _ _) ?_)) | ((with_reducible refine gGe ?_); (first | with_reducible refine w1 (v_ge _ _) ?_)) | ((with_reducible refine gAdd ?_); (first | with_reducible refine w1 (v_add _ _) ?_)) | ((with_reducible refine gSub ?_); (first | with_reducible refine w1 (v_sub _ _) ?_)) | ((with_reducible refine gEq ?_); (first | with_reducible refine w1 (v_eqI _ _) ?_ | with_reducible refine w1 (eq_strs _ _) ?_)) | ((with_reducible refine gNe ?_); (first | with_reducible refine w1 (v_neI _ _) ?_ | with_reducible refine w1 (v_neS _ _) ?_)) | ((with_reducible refine gIn ?_); (first | with_reducible refine w1 (in_strs _ _) ?_ | with_reducible refine w1 (v_inM _ _) ?_ | with_reducible refine w1 (v_inO _ _) ?_)) | ((with_reducible refine gNin ?_); (first | with_reducible refine w1 (notIn_strs _ _) ?_ | with_reducible refine w1 (v_notInM _ _) ?_)) | ((with_reducible refine gIs ?_); (first | with_reducible refine w1 (v_isO _) ?_ | with_reducible refine w1 (v_isS _) ?_ | with_reducible refine w1 (v_isN) ?_ | with_reducible refine w1 (v_isI _) ?_)) | ((with_reducible refine gNis ?_); (first | with_reducible refine w1 (v_notO _) ?_ | with_reducible refine w1 (v_notS _) ?_ | with_reducible refine w1 (v_notN) ?_ | with_reducible refine w1 (v_notI _) ?_)) | ((with_reducible refine gList ?_); (first | with_reducible refine w1 (v_list _) ?_ | with_reducible refine w1 (v_listR _) ?_)) | ((with_reducible refine gEl ?_); (first | with_reducible refine w1 (v_el _) ?_ | with_reducible refine w1 (v_elR _) ?_ | with_reducible refine w1 (elems_moves _) ?_)) | ((with_reducible refine gLst ?_); (first | with_reducible refine w1 (v_lst0) ?_))))
  | ((with_reducible refine gImm ?_); (first | with_reducible refine v_imS ?_ | with_reducible refine v_imI ?_ | with_reducible refine v_imN ?_ | with_reducible refine v_imB ?_ | with_reducible refine v_imO ?_ | with_reducible refine v_imK ?_ | with_reducible refine v_imR ?_))
  | ((with_reducible refine gEx ?_); (first | with_reducible refine wb ?_ | with_reducible refine wstr ?_ | with_reducible refine v_mvs _ ?_ | with_reducible refine v_kk _ ?_))
  | ((with_reducible refine gIf ?_); (first | with_reducible refine iTrue ?_ | with_reducible refine iFalse ?_ | refine iF (show _ = false from rfl) ?_ | refine iT (show _ = true from rfl) ?_))
  | simp only [List.set_cons_zero, List.set_cons_succ]
  | dsimp only))
local macro_rules | `(tactic| walk_at "gw") => `(tactic| repeat (first | walk_at "g1" | ((with_reducible refine w1G ?_); refine w1 (by exact rfl) ?_)))
section
abbrev wKeep : Str := PySem.Str.ofString "keep"
abbrev wTurn : Str := PySem.Str.ofString "turn"
abbrev wPut : Str := PySem.Str.ofString "put"
abbrev wDrop : Str := PySem.Str.ofString "drop"
end
section
abbrev xBad : Str := PySem.Str.ofString "BadScript"
abbrev kPlace : Str := PySem.Str.ofString "place"
def GoodE (x : T) : Prop := Fok f_is_edit [x] fun w _ => w = .bl true
def BadE (x : T) : Prop := Fok f_is_edit [x] fun w _ => w = .bl false
theorem good_ed {e : Ed} (h : NameE e) : GoodE (edT e) := is_edit_ok h
/-- a list or a tuple -/
def sqF (b : Bool) (xs : List T) : T := if b = true then .tup xs else .lst xs
theorem sqF_len (b : Bool) (xs : List T) : fLen [sqF b xs] = some (.int (xs.length : Nat)) := by cases b <;> rfl
theorem sqF_el (b : Bool) (xs : List T) : oElems (sqF b xs) = some xs := by cases b <;> rfl
theorem items_sq (b : Bool) (xs : List T) : Fok f_is_items [sqF b xs] fun w _ => w = .bl true := by
  refine fok_at (τ0 := [some _]) rfl ?_
  unfold st_is_items
  cases b <;> walk_at "gw" <;> first | rfl | exact congrArg T.bl (by decide)
theorem num_get : ∀ (xs : List T) (i : Nat), numberedF i xs = (xs.zipIdx i).map fun p => T.tup [.int p.2, p.1]
  | [], i => rfl
  | e :: s, i => by
    rw [List.zipIdx_cons, List.map_cons, ← num_get s (i + 1)]; rfl
theorem enum_sq (b : Bool) (xs : List T) : fEnum [sqF b xs] = some (xs.zipIdx.map fun p => T.tup [.int p.2, p.1]) := by
  rw [← num_get]; cases b <;> rfl
theorem bad_long {b : Bool} {xs : List T} (h : 5000 < xs.length) : Fok f_bad_edit [sqF b xs] fun w _ => w = .int (-1) := by
  refine fok_at (τ0 := [some _, none, none]) rfl ?_
  unfold st_bad_edit
  walk_at "go"
  refine fok_imp (items_sq b xs) ?_
  rintro _ _ rfl
  walk_at "go"
  try refine iF rfl ?_
  walk_at "go"
  refine w1 (sqF_len b xs) ?_
  walk_at "go"
  refine iT (decide_eq_true (by omega)) ?_
  walk_at "gw"
theorem bad_good {b : Bool} {xs : List T} (hl : xs.length ≤ 5000) (h : ∀ x ∈ xs, GoodE x) : Fok f_bad_edit [sqF b xs] fun w _ => w = .non := by
  refine fok_at (τ0 := [some _, none, none]) rfl ?_
  unfold st_bad_edit
  walk_at "go"
  refine fok_imp (items_sq b xs) ?_
  rintro _ _ rfl
  walk_at "go"
  try refine iF rfl ?_
  walk_at "go"
  refine w1 (sqF_len b xs) ?_
  walk_at "go"
  refine iF (decide_eq_false (by omega)) ?_
  walk_at "go"
  refine w1 (enum_sq b xs) ?_
  refine ok_walk (fun done τ => ∃ y y2, τ = [some (sqF b xs), y, y2]) ⟨none, none, rfl⟩ ?_ ?_
  · rintro done x r τ e ⟨y, y2, rfl⟩
    have hz : x.1 ∈ xs := by
      have : x ∈ xs.zipIdx := by rw [← e]; simp
      have := List.mem_zipIdx this
      rw [this.2.2]; exact List.getElem_mem _
    walk_at "go"
    refine fok_imp (h _ hz) ?_
    rintro _ _ rfl
    walk_at "go"
    try refine iF rfl ?_
    walk_at "go"
    exact ⟨_, _, rfl⟩
  · rintro τ ⟨y, y2, rfl⟩
    walk_at "go"
theorem bad_at {b : Bool} {xs ys : List T} {x : T} (hl : (xs ++ x :: ys).length ≤ 5000) (h : ∀ x ∈ xs, GoodE x) (hx : BadE x) : Fok f_bad_edit [sqF b (xs ++ x :: ys)] fun w _ => w = .int (xs.length : Nat) := by
  refine fok_at (τ0 := [some _, none, none]) rfl ?_
  unfold st_bad_edit
  walk_at "go"
  refine fok_imp (items_sq b _) ?_
  rintro _ _ rfl
  walk_at "go"
  try refine iF rfl ?_
  walk_at "go"
  refine w1 (sqF_len b _) ?_
  walk_at "go"
  refine iF (decide_eq_false (by omega)) ?_
  walk_at "go"
  refine w1 (enum_sq b _) ?_
  refine ok_walk (fun done τ => done.length ≤ xs.length ∧ ∃ y y2, τ = [some (sqF b (xs ++ x :: ys)), y, y2]) ⟨Nat.zero_le _, none, none, rfl⟩ ?_ ?_
  · rintro done z r τ e ⟨hd, y, y2, rfl⟩
    have hg : (xs ++ x :: ys).zipIdx[done.length]? = some z := by rw [← e]; simp
    rw [List.getElem?_zipIdx] at hg
    obtain ⟨v, hv, rfl⟩ := Option.map_eq_some_iff.mp hg
    walk_at "go"
    rcases Nat.lt_or_eq_of_le hd with hd | hd
    · have hz : v ∈ xs := by
        rw [List.getElem?_append_left hd] at hv
        exact List.mem_of_getElem? hv
      refine fok_imp (h _ hz) ?_
      rintro _ _ rfl
      walk_at "go"
      try refine iF rfl ?_
      walk_at "go"
      exact ⟨by rw [List.length_append]; exact hd, _, _, rfl⟩
    · have hz : v = x := by
        rw [List.getElem?_append_right (by omega), show done.length - xs.length = 0 by omega] at hv
        exact (Option.some.inj hv).symm
      subst hz
      refine fok_imp hx ?_
      rintro _ _ rfl
      walk_at "gw"
      show T.int _ = T.int _
      rw [hd]; simp
  · rintro τ ⟨hd, _⟩
    rw [List.length_zipIdx, List.length_append, List.length_cons] at hd
    omega
theorem need_good {b : Bool} {xs : List T} (hl : xs.length ≤ 5000) (h : ∀ x ∈ xs, GoodE x) : Fok f_need_script [sqF b xs] fun w _ => w = .non := by
  first | refine fok_at (τ0 := [some _, none]) rfl ?_ | refine fok_atX (τ0 := [some _, none]) rfl ?_
  unfold st_need_script
  walk_at "go"
  refine fok_imp (bad_good hl h) ?_
  rintro _ _ rfl
  walk_at "gw"
/-- a value with a place that is no script -/
def BadS (v : T) (k : Int) : Prop := Fok f_bad_edit [v] fun w _ => w = .int k
theorem need_bad {v : T} {k : Int} (h : BadS v k) : Fxc f_need_script [v] fun x => x = ⟨xBad, [(kPlace, .int k)]⟩ := by
  refine fxc_at (τ0 := [some _, none]) rfl ?_
  unfold st_need_script
  refine xc_seq2 ?_
  walk_at "go"
  refine fok_imp h ?_
  rintro _ _ rfl
  refine ⟨by first | rfl | trivial, xc_if ?_⟩
  walk_at "gw"
  refine xc_raise ?_
  walk_at "gw"
  exact ⟨rfl, rfl⟩
theorem need_in {n : Int} (h0 : 0 ≤ n) (h1 : n ≤ 8) : Fok f_need_within [.int n, .int 0, .int 8] fun w _ => w = .non := by
  first | refine fok_at (τ0 := [some _, some _, some _]) rfl ?_ | refine fok_atX (τ0 := [some _, some _, some _]) rfl ?_
  unfold st_need_within
  walk_at "go"
  refine fok_imp (is_within_ok h0 h1) ?_
  rintro _ _ rfl
  walk_at "gw"
end
section
/-- what turned asks of its parts -/
theorem turned_good {a t c : List Ed} {qa qt qc : Bool} {n : Nat} (hn : n ≤ 8) (ha : a.length ≤ 5000) (ht : t.length ≤ 5000) (hc : c.length ≤ 5000) (na : ∀ e ∈ a, NameE e) (nt : ∀ e ∈ t, NameE e) (nc : ∀ e ∈ c, NameE e)
    (hl : a.length + n * t.length + c.length ≤ 5000) : Fok f_turned [sqF qa (a.map edT), sqF qt (t.map edT), sqF qc (c.map edT), .int n] fun w _ => w = .lst ((a ++ (List.replicate n t).flatten ++ c).map edT) := by
  have hsz : (10000 : Nat) < szL := by decide
  have G : ∀ {s : List Ed} (q : Bool), s.length ≤ 5000 → (∀ e ∈ s, NameE e) → Fok f_need_script [sqF q (s.map edT)] fun w _ => w = .non := fun q h1 h2 => need_good (by rw [List.length_map]; exact h1) fun x hx => by
    obtain ⟨e, he, rfl⟩ := List.mem_map.mp hx; exact good_ed (h2 e he)
  first | refine fok_at (τ0 := [some _, some _, some _, some _, none]) rfl ?_ | refine fok_atX (τ0 := [some _, some _, some _, some _, none]) rfl ?_
  unfold st_turned
  walk_at "go"
  refine w1 (a := T.tup [sqF qa (a.map edT), sqF qt (t.map edT), sqF qc (c.map edT)]) rfl ?_
  refine w1 rfl ?_
  refine ok_sForB (ok_put ?_)
  walk_at "go"
  refine fok_imp (G qa ha na) ?_
  rintro _ _ rfl
  refine ⟨by first | rfl | trivial, ok_sForB (ok_put ?_)⟩
  walk_at "go"
  refine fok_imp (G qt ht nt) ?_
  rintro _ _ rfl
  refine ⟨by first | rfl | trivial, ok_sForB (ok_put ?_)⟩
  walk_at "go"
  refine fok_imp (G qc hc nc) ?_
  rintro _ _ rfl
  refine ⟨by first | rfl | trivial, ok_sForN ?_⟩
  walk_at "go"
  refine fok_imp (need_in (n := (n : Int)) (by omega) (by omega)) ?_
  rintro _ _ rfl
  walk_at "go"
  refine w1 (sqF_len qa _) ?_
  walk_at "go"
  refine w1 (sqF_len qt _) ?_
  walk_at "go"
  refine w1 (oMul_r (by rw [List.length_map]; omega)) ?_
  walk_at "go"
  refine w1 (sqF_len qc _) ?_
  walk_at "go"
  have hle : ((a.map edT).length : Int) + (n : Int) * ((t.map edT).length : Int) + ((c.map edT).length : Int) ≤ 5000 := by
    rw [List.length_map, List.length_map, List.length_map]
    have : ((n * t.length : Nat) : Int) = (n : Int) * (t.length : Int) := Int.natCast_mul _ _
    omega
  refine iF (decide_eq_false (by omega)) ?_
  walk_at "go"
  have hm : (t.map edT).length * n ≤ 5000 := by
    rw [List.length_map, Nat.mul_comm]; omega
  refine ⟨a.map edT, by cases qa <;> rfl, imms_eds a, ?_⟩
  walk_at "go"
  refine ⟨t.map edT, by cases qt <;> rfl, imms_eds t, ?_⟩
  walk_at "go"
  refine ⟨t.map edT, n, rfl, rfl, ⟨by omega, by omega, ?_⟩, ?_⟩
  · rw [Int.toNat_natCast]; omega
  rw [Int.toNat_natCast]
  refine ⟨_, rfl, ?_⟩
  walk_at "go"
  refine ⟨c.map edT, by cases qc <;> rfl, imms_eds c, ?_⟩
  walk_at "go"
  have e1 : (a.map edT) ++ ((List.replicate n (t.map edT)).flatten ++ ((c.map edT) ++ [])) = (a ++ (List.replicate n t).flatten ++ c).map edT := by
    rw [List.append_nil, List.map_append, List.map_append, List.append_assoc, List.map_flatten, List.map_replicate]
  refine w1 (a := T.lst ((a ++ (List.replicate n t).flatten ++ c).map edT)) ?_ rfl
  rw [e1]
  show (if _ then _ else _) = _
  refine if_pos ?_
  rw [List.length_map, List.length_append, List.length_append, List.length_flatten, List.map_replicate, List.sum_replicate_nat]
  omega
theorem turned_bad1 {v1 v2 v3 v4 : T} {k : Int} (h : BadS v1 k) : Fxc f_turned [v1, v2, v3, v4] fun x => x = ⟨xBad, [(kPlace, .int k)]⟩ := by
  refine fxc_at (τ0 := [some _, some _, some _, some _, none]) rfl ?_
  unfold st_turned
  refine xc_seq1 (xc_for ?_)
  walk_at "go"
  refine w1 (a := T.tup [v1, v2, v3]) rfl ?_
  refine w1 rfl ?_
  refine xc_sForA (ok_put ?_)
  refine xc_drop (xc_callA ?_)
  walk_at "go"
  exact need_bad h
theorem turned_bad2 {v1 v2 v3 v4 : T} {k : Int} (h1 : Fok f_need_script [v1] fun w _ => w = .non) (h : BadS v2 k) : Fxc f_turned [v1, v2, v3, v4] fun x => x = ⟨xBad, [(kPlace, .int k)]⟩ := by
  refine fxc_at (τ0 := [some _, some _, some _, some _, none]) rfl ?_
  unfold st_turned
  refine xc_seq1 (xc_for ?_)
  walk_at "go"
  refine w1 (a := T.tup [v1, v2, v3]) rfl ?_
  refine w1 rfl ?_
  refine xc_sForB (ok_put ?_)
  walk_at "go"
  refine fok_imp h1 ?_
  rintro _ _ rfl
  refine ⟨by first | rfl | trivial, xc_sForA (ok_put ?_)⟩
  refine xc_drop (xc_callA ?_)
  walk_at "go"
  exact need_bad h
theorem turned_bad3 {v1 v2 v3 v4 : T} {k : Int} (h1 : Fok f_need_script [v1] fun w _ => w = .non) (h2 : Fok f_need_script [v2] fun w _ => w = .non) (h : BadS v3 k) : Fxc f_turned [v1, v2, v3, v4] fun x => x = ⟨xBad, [(kPlace, .int k)]⟩ := by
  refine fxc_at (τ0 := [some _, some _, some _, some _, none]) rfl ?_
  unfold st_turned
  refine xc_seq1 (xc_for ?_)
  walk_at "go"
  refine w1 (a := T.tup [v1, v2, v3]) rfl ?_
  refine w1 rfl ?_
  refine xc_sForB (ok_put ?_)
  walk_at "go"
  refine fok_imp h1 ?_
  rintro _ _ rfl
  refine ⟨by first | rfl | trivial, xc_sForB (ok_put ?_)⟩
  walk_at "go"
  refine fok_imp h2 ?_
  rintro _ _ rfl
  refine ⟨by first | rfl | trivial, xc_sForA (ok_put ?_)⟩
  refine xc_drop (xc_callA ?_)
  walk_at "go"
  exact need_bad h
theorem ixS_nat {n d k : Nat} (h : k ≤ n) : ixS n d (some (k : Int)) = k := by
  show (if (k : Int) < 0 then ((k : Int) + (n : Int)).toNat else min (k : Int).toNat n) = k
  rw [if_neg (by omega), Int.toNat_natCast]; omega
end
end
section
local macro_rules | `(tactic| walk_at "g1") => `(tactic| first
  | ((with_reducible refine okGc ?_); (first | with_reducible refine ok_seq ?_ | with_reducible refine ok_set ?_ | with_reducible refine ok_ret ?_ | with_reducible refine ok_drop ?_ | with_reducible refine ok_if ?_ | with_reducible refine ok_nx ?_ | with_reducible refine ok_sSetL ?_ | with_reducible refine ok_sSetI ?_ | with_reducible refine ok_sSet2 ?_ | with_reducible refine ok_sFldM ?_ | with_reducible refine ok_unp ?_ | with_reducible refine ok_only ?_ | with_reducible refine ok_must ?_ | with_reducible refine ok_for ?_ | with_reducible refine ok_noE ?_))
  | ((with_reducible refine okGt ?_); (first | with_reducible refine ok_get rfl ?_ | with_reducible refine ok_con ?_ | with_reducible refine ok_op2 ?_ | with_reducible refine ok_fnA ?_ | with_reducible refine ok_toI ?_ | with_reducible refine ok_callA ?_ | with_reducible refine ok_callL ?_ | with_reducible refine ok_op1 ?_ | with_reducible refine ok_mv rfl ?_ | with_reducible refine ok_newA ?_ | with_reducible refine ok_newI ?_ | with_reducible refine ok_toS ?_ | with_reducible refine ok_isa ?_ | with_reducible refine ok_isaI ?_ | with_reducible refine ok_isaO ?_ | with_reducible refine ok_fld ?_ | with_reducible refine ok_chain ?_ | with_reducible refine ok_andM ?_ | with_reducible refine ok_orM ?_ | with_reducible refine ok_notM ?_ | with_reducible refine ok_makeA ?_ | with_reducible refine ok_cutN ?_ | with_reducible refine ok_cutI ?_ | with_reducible refine ok_get1M ?_ | with_reducible refine ok_ifE ?_ | with_reducible refine ok_appS ?_ | with_reducible refine ok_sLc ?_ | with_reducible refine ok_sDc ?_ | with_reducible refine ok_clearM ?_ | with_reducible refine ok_sApp2 ?_ | with_reducible refine ok_sClear2 ?_ | with_reducible refine ok_strM ?_ | with_reducible refine ok_tupA ?_ | with_reducible refine ok_catTA ?_ | with_reducible refine ok_revI ?_ | with_reducible refine ok_inO ?_ | with_reducible refine ok_ixO ?_ | with_reducible refine ok_repM ?_ | with_reducible refine ok_repTA ?_ | with_reducible refine ok_mvA ?_ | with_reducible refine ok_sAddS ?_ | with_reducible refine ok_set1M ?_ | with_reducible refine ok_noE ?_))
  | ((with_reducible refine okGl ?_); (first | with_reducible refine ok_cons ?_ | with_reducible refine ok_nil ?_ | with_reducible refine ok_elems ?_ | with_reducible refine ok_selfA ?_ | with_reducible refine ok_propA ?_ | with_reducible refine ok_rng1 ?_ | with_reducible refine ok_rng2 ?_ | with_reducible refine ok_enum ?_ | with_reducible refine ok_valsM ?_ | with_reducible refine ok_starM ?_ | with_reducible refine ok_starFM ?_ | with_reducible refine ok_noE ?_))
  | ((with_reducible refine okGb ?_); (first | with_reducible refine ok_tst ?_ | with_reducible refine ok_andT ?_ | with_reducible refine ok_orT ?_ | with_reducible refine ok_notT ?_ | with_reducible refine ok_truT ?_ | with_reducible refine ok_noE ?_))
  | ((with_reducible refine okGo ?_); (first | with_reducible refine ok_noPart ?_ | with_reducible refine ok_part ?_))
  | ((with_reducible refine okGu ?_); (first | with_reducible refine ok_putT2 ?_ | with_reducible refine ok_putT3 ?_))
  | ((with_reducible refine w1G ?_); (first | ((with_reducible refine gGet ?_); (first | with_reducible refine w1 (v_p0 _ _ _ _) ?_ | with_reducible refine w1 (v_p1 _ _ _ _) ?_ | with_reducible refine w1 (v_p2 _ _ _ _) ?_ | with_reducible refine w1 (v_p3 _ _ _ _) ?_ | with_reducible refine w1 (key_fst _) ?_ | with_reducible refine w1 (key_snd _) ?_)) | ((with_reducible refine gFld ?_); (first | with_reducible refine w1 (v_al _ _ _ _ _) ?_ | with_reducible refine w1 (v_or _ _ _ _ _) ?_ | with_reducible refine w1 (v_ed _ _ _ _ _) ?_ | with_reducible refine w1 (v_en _ _ _ _ _) ?_ | with_reducible refine w1 (v_pl _ _ _ _ _) ?_)) | ((with_reducible refine gCls ?_); (first | with_reducible refine w1 (v_cm _ _ _ _ _) ?_)) | ((with_reducible refine gTup ?_); (first | with_reducible refine w1 (v_key _ _) ?_ | with_reducible refine w1 (v_tup0) ?_)) | ((with_reducible refine gLen ?_); (first | with_reducible refine w1 (v_len _) ?_ | with_reducible refine w1 (v_lenT _) ?_ | with_reducible refine w1 (v_lenM _) ?_)) | ((with_reducible refine gLt ?_); (first | with_reducible refine w1 (v_lt _ _) ?_)) | ((with_reducible refine gLe ?_); (first | with_reducible refine w1 (v_le _ _) ?_)) | ((with_reducible refine gGt ?_); (first | with_reducible refine w1 (v_gt _ _) ?_)) | ((with_reducible refine gGe ?_); (first | with_reducible refine w1 (v_ge _ _) ?_)) | ((with_reducible refine gAdd ?_); (first | with_reducible refine w1 (v_add _ _) ?_)) | ((with_reducible refine gSub ?_); (first | with_reducible refine w1 (v_sub _ _) ?_)) | ((with_reducible refine gEq ?_); (first | with_reducible refine w1 (v_eqI _ _) ?_ | with_reducible refine w1 (eq_strs _ _) ?_)) | ((with_reducible refine gNe ?_); (first | with_reducible refine w1 (v_neI _ _) ?_ | with_reducible refine w1 (v_neS _ _) ?_)) | ((with_reducible refine gIn ?_); (first | with_reducible refine w1 (in_strs _ _) ?_ | with_reducible refine w1 (v_inM _ _) ?_ | with_reducible refine w1 (v_inO _ _) ?_)) | ((with_reducible refine gNin ?_); (first | with_reducible refine w1 (notIn_strs _ _) ?_ | with_reducible refine w1 (v_notInM _ _) ?_)) | ((with_reducible refine gIs ?_); (first | with_reducible refine w1 (v_isO _) ?_ | with_reducible refine w1 (v_isS _) ?_ | with_reducible refine w1 (v_isN) ?_ | with_reducible refine w1 (v_isI _) ?_)) | ((with_reducible refine gNis ?_); (first | with_reducible refine w1 (v_notO _) ?_ | with_reducible refine w1 (v_notS _) ?_ | with_reducible refine w1 (v_notN) ?_ | with_reducible refine w1 (v_notI _) ?_)) | ((with_reducible refine gList ?_); (first | with_reducible refine w1 (v_list _) ?_ | with_reducible refine w1 (v_listR _) ?_)) | ((with_reducible refine gEl ?_); (first | with_reducible refine w1 (v_el _) ?_ | with_reducible refine w1 (v_elR _) ?_ | with_reducible refine w1 (elems_moves _) ?_)) | ((with_reducible refine gLst ?_); (first | with_reducible refine w1 (v_lst0) ?_))))
  | ((with_reducible refine gImm ?_); (first | with_reducible refine v_imS ?_ | with_reducible refine v_imI ?_ | with_reducible refine v_imN ?_ | with_reducible refine v_imB ?_ | with_reducible refine v_imO ?_ | with_reducible refine v_imK ?_ | with_reducible refine v_imR ?_))
  | ((with_reducible refine gEx ?_); (first | with_reducible refine wb ?_ | with_reducible refine wstr ?_ | with_reducible refine v_mvs _ ?_ | with_reducible refine v_kk _ ?_))
  | ((with_reducible refine gIf ?_); (first | with_reducible refine iTrue ?_ | with_reducible refine iFalse ?_ | refine iF (show _ = false from rfl) ?_ | refine iT (show _ = true from rfl) ?_))
  | simp only [List.set_cons_zero, List.set_cons_succ]
  | dsimp only)
local macro_rules | `(tactic| walk_at "go") => `(tactic| repeat (first
  | ((with_reducible refine okGc ?_); (first | with_reducible refine ok_seq ?_ | with_reducible refine ok_set ?_ | with_reducible refine ok_ret ?_ | with_reducible refine ok_drop ?_ | with_reducible refine ok_if ?_ | with_reducible refine ok_nx ?_ | with_reducible refine ok_sSetL ?_ | with_reducible refine ok_sSetI ?_ | with_reducible refine ok_sSet2 ?_ | with_reducible refine ok_sFldM ?_ | with_reducible refine ok_unp ?_ | with_reducible refine ok_only ?_ | with_reducible refine ok_must ?_ | with_reducible refine ok_for ?_ | with_reducible refine ok_noE ?_))
  | ((with_reducible refine okGt ?_); (first | with_reducible refine ok_get rfl ?_ | with_reducible refine ok_con ?_ | with_reducible refine ok_op2 ?_ | with_reducible refine ok_fnA ?_ | with_reducible refine ok_toI ?_ | with_reducible refine ok_callA ?_ | with_reducible refine ok_callL ?_ | with_reducible refine ok_op1 ?_ | with_reducible refine ok_mv rfl ?_ | with_reducible refine ok_newA ?_ | with_reducible refine ok_newI ?_ | with_reducible refine ok_toS ?_ | with_reducible refine ok_isa ?_ | with_reducible refine ok_isaI ?_ | with_reducible refine ok_isaO ?_ | with_reducible refine ok_fld ?_ | with_reducible refine ok_chain ?_ | with_reducible refine ok_andM ?_ | with_reducible refine ok_orM ?_ | with_reducible refine ok_notM ?_ | with_reducible refine ok_makeA ?_ | with_reducible refine ok_cutN ?_ | with_reducible refine ok_cutI ?_ | with_reducible refine ok_get1M ?_ | with_reducible refine ok_ifE ?_ | with_reducible refine ok_appS ?_ | with_reducible refine ok_sLc ?_ | with_reducible refine ok_sDc ?_ | with_reducible refine ok_clearM ?_ | with_reducible refine ok_sApp2 ?_ | with_reducible refine ok_sClear2 ?_ | with_reducible refine ok_strM ?_ | with_reducible refine ok_tupA ?_ | with_reducible refine ok_catTA ?_ | with_reducible refine ok_revI ?_ | with_reducible refine ok_inO ?_ | with_reducible refine ok_ixO ?_ | with_reducible refine ok_repM ?_ | with_reducible refine ok_repTA ?_ | with_reducible refine ok_mvA ?_ | with_reducible refine ok_sAddS ?_ | with_reducible refine ok_set1M ?_ | with_reducible refine ok_noE ?_))
  | ((with_reducible refine okGl ?_); (first | with_reducible refine ok_cons ?_ | with_reducible refine ok_nil ?_ | with_reducible refine ok_elems ?_ | with_reducible refine ok_selfA ?_ | with_reducible refine ok_propA ?_ | with_reducible refine ok_rng1 ?_ | with_reducible refine ok_rng2 ?_ | with_reducible refine ok_enum ?_ | with_reducible refine ok_valsM ?_ | with_reducible refine ok_starM ?_ | with_reducible refine ok_starFM ?_ | with_reducible refine ok_noE ?_))
  | ((with_reducible refine okGb ?_); (first | with_reducible refine ok_tst ?_ | with_reducible refine ok_andT ?_ | with_reducible refine ok_orT ?_ | with_reducible refine ok_notT ?_ | with_reducible refine ok_truT ?_ | with_reducible refine ok_noE ?_))
  | ((with_reducible refine okGo ?_); (first | with_reducible refine ok_noPart ?_ | with_reducible refine ok_part ?_))
  | ((with_reducible refine okGu ?_); (first | with_reducible refine ok_putT2 ?_ | with_reducible refine ok_putT3 ?_))
  | ((with_reducible refine w1G ?_); (first | ((with_reducible refine gGet ?_); (first | with_reducible refine w1 (v_p0 _ _ _ _) ?_ | with_reducible refine w1 (v_p1 _ _ _ _) ?_ | with_reducible refine w1 (v_p2 _ _ _ _) ?_ | with_reducible refine w1 (v_p3 _ _ _ _) ?_ | with_reducible refine w1 (key_fst _) ?_ | with_reducible refine w1 (key_snd _) ?_)) | ((with_reducible refine gFld ?_); (first | with_reducible refine w1 (v_al _ _ _ _ _) ?_ | with_reducible refine w1 (v_or _ _ _ _ _) ?_ | with_reducible refine w1 (v_ed _ _ _ _ _) ?_ | with_reducible refine w1 (v_en _ _ _ _ _) ?_ | with_reducible refine w1 (v_pl _ _ _ _ _) ?_)) | ((with_reducible refine gCls ?_); (first | with_reducible refine w1 (v_cm _ _ _ _ _) ?_)) | ((with_reducible refine gTup ?_); (first | with_reducible refine w1 (v_key _ _) ?_ | with_reducible refine w1 (v_tup0) ?_)) | ((with_reducible refine gLen ?_); (first | with_reducible refine w1 (v_len _) ?_ | with_reducible refine w1 (v_lenT _) ?_ | with_reducible refine w1 (v_lenM _) ?_)) | ((with_reducible refine gLt ?_); (first | with_reducible refine w1 (v_lt _ _) ?_)) | ((with_reducible refine gLe ?_); (first | with_reducible refine w1 (v_le _ _) ?_)) | ((with_reducible refine gGt ?_); (first | with_reducible refine w1 (v_gt _ _) ?_)) | ((with_reducible refine gGe ?_); (first | with_reducible refine w1 (v_ge _ _) ?_)) | ((with_reducible refine gAdd ?_); (first | with_reducible refine w1 (v_add _ _) ?_)) | ((with_reducible refine gSub ?_); (first | with_reducible refine w1 (v_sub _ _) ?_)) | ((with_reducible refine gEq ?_); (first | with_reducible refine w1 (v_eqI _ _) ?_ | with_reducible refine w1 (eq_strs _ _) ?_)) | ((with_reducible refine gNe ?_); (first | with_reducible refine w1 (v_neI _ _) ?_ | with_reducible refine w1 (v_neS _ _) ?_)) | ((with_reducible refine gIn ?_); (first | with_reducible refine w1 (in_strs _ _) ?_ | with_reducible refine w1 (v_inM _ _) ?_ | with_reducible refine w1 (v_inO _ _) ?_)) | ((with_reducible refine gNin ?_); (first | with_reducible refine w1 (notIn_strs _ _) ?_ | with_reducible refine w1 (v_notInM _ _) ?_)) | ((with_reducible refine gIs ?_); (first | with_reducible refine w1 (v_isO _) ?_ | with_reducible refine w1 (v_isS _) ?_ | with_reducible refine w1 (v_isN) ?_ | with_reducible refine w1 (v_isI _) ?_)) | ((with_reducible refine gNis ?_); (first | with_reducible refine w1 (v_notO _) ?_ | with_reducible refine w1 (v_notS _) ?_ | with_reducible refine w1 (v_notN) ?_ | with_reducible refine w1 (v_notI _) ?_)) | ((with_reducible refine gList ?_); (first | with_reducible refine w1 (v_list _) ?_ | with_reducible refine w1 (v_listR _) ?_)) | ((with_reducible refine gEl ?_); (first | with_reducible refine w1 (v_el _) ?_ | with_reducible refine w1 (v_elR _) ?_ | with_reducible refine w1 (elems_moves _) ?_)) | ((with_reducible refine gLst ?_); (first | with_reducible refine w1 (v_lst0) ?_))))
  | ((with_reducible refine gImm ?_); (first | with_reducible refine v_imS ?_ | with_reducible refine v_imI ?_ | with_reducible refine v_imN ?_ | with_reducible refine v_imB ?_ | with_reducible refine v_imO ?_ | with_reducible refine v_imK ?_ | with_reducible refine v_imR ?_))
  | ((with_reducible refine gEx ?_); (first | with_reducible refine wb ?_ | with_reducible refine wstr ?_ | with_reducible refine v_mvs _ ?_ | with_reducible refine v_kk _ ?_))
  | ((with_reducible refine gIf ?_); (first | with_reducible refine iTrue ?_ | with_reducible refine iFalse ?_ | refine iF (show _ = false from rfl) ?_ | refine iT (show _ = true from rfl) ?_))
  | simp only [List.set_cons_zero, List.set_cons_succ]
  | dsimp only))
local macro_rules | `(tactic| walk_at "gw") => `(tactic| repeat (first | walk_at "g1" | ((with_reducible refine w1G ?_); refine w1 (by exact rfl) ?_)))
local macro_rules | `(tactic| walk_at "gz") => `(tactic| repeat (first
  | walk_at "g1"
  | (with_reducible refine gRng ?_; refine w1 (fRange1_nat (by omega)) ?_)
  | ((with_reducible refine w1G ?_); refine w1 (by exact rfl) ?_)
  | ((with_reducible refine gImm ?_); refine ⟨by exact rfl, ?_⟩)
  | ((with_reducible refine gImms ?_); refine ⟨by exact rfl, ?_⟩)
  | ((with_reducible refine gApp ?_); refine ⟨⟨_, rfl⟩, ?_⟩)
  | ((with_reducible refine gAppX ?_); refine ⟨⟨_, rfl⟩, ?_⟩)
  | ((with_reducible refine gIf ?_); (first | refine iT (by decide +kernel) ?_ | refine iF (by decide +kernel) ?_))
  | ((with_reducible refine gEx ?_); (first | refine ⟨_, by exact rfl, ?_⟩ | refine ⟨_, _, by exact rfl, by exact rfl, ?_⟩))
  | with_reducible refine ok_exI rfl ?_
  | with_reducible refine ok_exF rfl rfl ?_
  | with_reducible refine ok_cutF ?_
  | with_reducible refine ok_tupF ?_))
section
def namesE : Ed → List Str
  | .turn y x => [y, x]
  | .keep x => [x]
  | .drop x => [x]
  | .put x => [x]
end
section
theorem EdOk.all {al : List Str} {e : Ed} (h : EdOk al e) : ∀ z ∈ namesE e, z ∈ al := by
  cases e with
  | keep x => intro z hz; rw [List.mem_singleton.mp hz]; exact h
  | drop x => intro z hz; rw [List.mem_singleton.mp hz]; exact h
  | put x => intro z hz; rw [List.mem_singleton.mp hz]; exact h
  | turn y x =>
    intro z hz
    rcases List.mem_cons.mp hz with rfl | hz
    · exact h.1
    · rw [List.mem_singleton.mp hz]; exact h.2.1
end
section
theorem ok_walkT {bg : T → M Unit} {b : M Ctl} {τ : Tau} {QC : Ctl → Tau → Prop} (Inv : List T → Tau → Prop) {xs : List T} (h0 : Inv [] τ)
    (step : ∀ done x r τ, done ++ x :: r = xs → Inv done τ → Ok (bg x) τ fun _ τ1 => Ok b τ1 fun c τ2 => match c with
      | .nx => Inv (done ++ [x]) τ2
      | .ct => Inv (done ++ [x]) τ2
      | .bk => QC .nx τ2
      | .rt w => QC (.rt w) τ2) (fin : ∀ τ, Inv xs τ → QC .nx τ) : Ok (sFor bg b xs) τ QC := by
  have := ok_walk (enc := fun x : T => x) (bg := bg) (b := b) (QC := QC) Inv h0 step fin
  rwa [List.map_id'] at this
end
section
def nmT : T → Bool
  | .str z => nameB z
  | _ => false
/-- a text, or nothing like one -/
def ItN (x : T) : Prop := (∃ z, x = .str z ∧ z.length ≤ 1000) ∨ (oIsA x ["str"] = some (.bl false) ∧ nmT x = false)
theorem ItN.name {x : T} (h : ItN x) : Fok f_is_name [x] fun w _ => w = .bl (nmT x) := by
  rcases h with ⟨z, rfl, hz⟩ | ⟨h, e⟩
  · exact is_name_str hz
  · rw [e]; exact is_name_no ((oIsAI_nil _ _).trans h)
def edB : T → Bool
  | .tup [.str w, a] => (decide (w = wKeep) || (decide (w = wDrop) || decide (w = wPut))) && nmT a
  | .tup [.str w, a, b] => decide (w = wTurn) && (nmT a && (nmT b && !tEq a b))
  | _ => false
/-- an item that can be looked at -/
def ItE (y : T) : Prop := (oIsA y ["tuple"] = some (.bl false) ∧ edB y = false) ∨ ∃ xs, y = .tup xs ∧ (xs.length < 2 ∨ 3 < xs.length ∨ ∃ h r, xs = h :: r ∧ isScal h = true ∧ ∀ x ∈ r, ItN x)
theorem edB_len : ∀ {xs : List T}, (xs.length < 2 ∨ 3 < xs.length) → edB (.tup xs) = false
  | [], _ => rfl
  | [x], _ => by cases x <;> rfl
  | [_, _], h => by simp at h
  | [_, _, _], h => by simp at h
  | a :: b :: c :: d :: r, _ => by cases a <;> rfl
theorem eqT_dec (x w : Str) : tEq (.str x) (.str w) = decide (w = x) := by
  show (x == w) = _
  by_cases h : w = x
  · subst h; simp
  · have : ¬ x = w := fun e => h e.symm
    simp [h, this]
theorem edB_ns2 {h a : T} (hs : ∀ z, h ≠ .str z) : edB (.tup [h, a]) = false := by
  unfold edB
  split
  · rename_i w a' e; injection e with e; injection e with e1 e2; exact (hs _ e1).elim
  · rename_i e; injection e with e; injection e with e1 e2; injection e2 with e2 e3; cases e3
  · rfl
theorem edB_ns3 {h a b : T} (hs : ∀ z, h ≠ .str z) : edB (.tup [h, a, b]) = false := by
  unfold edB
  split
  · rename_i e; injection e with e; injection e with e1 e2; injection e2 with e2 e3; cases e3
  · rename_i w a' b' e; injection e with e; injection e with e1 e2; exact (hs _ e1).elim
  · rfl
theorem scal_str {h : T} (hs : isScal h = true) : (∃ w, h = .str w) ∨ ((∀ z, h ≠ .str z) ∧ oIsA h ["str"] = some (.bl false)) := by
  cases h with
  | str w => exact .inl ⟨w, rfl⟩
  | non => exact .inr ⟨fun z e => (by cases e), rfl⟩
  | bl b => exact .inr ⟨fun z e => (by cases e), rfl⟩
  | int b => exact .inr ⟨fun z e => (by cases e), rfl⟩
  | _ => cases hs
theorem scal_eq {h : T} (hs : isScal h = true) (hn : ∀ z, h ≠ .str z) (k : Str) : oEq h (.str k) = some (.bl false) := by
  cases h with
  | str w => exact (hn w rfl).elim
  | non => rfl
  | bl b => rfl
  | int b => rfl
  | _ => cases hs
theorem nm_str {x : T} (h : nmT x = true) : ∃ z, x = .str z ∧ NameOk z := by
  cases x with
  | str z => exact ⟨z, rfl, nameB_ok.mp h⟩
  | _ => cases h
theorem edB_nm {h0 x : T} : ∀ {r : List T}, x ∈ r → nmT x = false → edB (.tup (h0 :: r)) = false
  | [a], hx, h => by
    rw [List.mem_singleton] at hx
    subst hx
    cases h0 with
    | str w => show (_ && nmT x) = false; rw [h]; simp
    | _ => rfl
  | [a, b], hx, h => by
    cases h0 with
    | str w =>
      show (decide (w = wTurn) && (nmT a && (nmT b && !tEq a b))) = false
      rcases List.mem_cons.mp hx with e | e
      · subst e; rw [h]; simp
      · rw [List.mem_singleton] at e; subst e; rw [h]; simp
    | _ => rfl
  | a :: b :: c :: d, _, _ => edB_len (.inr (by simp))
theorem is_edit_any {y : T} (h : ItE y) : Fok f_is_edit [y] fun w _ => w = .bl (edB y) := by
  refine fok_at (τ0 := [some _]) rfl ?_
  unfold st_is_edit
  rcases h with ⟨h, e⟩ | ⟨xs, rfl, h⟩
  · rw [e]
    walk_at "gz"
    refine w1 h ?_
    walk_at "gz"
  · rcases h with h | h | ⟨h0, r, rfl, hs, hr⟩
    · rw [edB_len (.inl h)]
      walk_at "gz"
      refine iF (decide_eq_false (by omega)) ?_
      walk_at "gz"
    · rw [edB_len (.inr h)]
      walk_at "gz"
      refine iT (decide_eq_true (by omega)) ?_
      walk_at "gz"
      refine iT (by rw [decide_eq_false (by omega)]; rfl) ?_
      walk_at "gz"
    · match r, hr with
      | [], _ =>
        rw [edB_len (.inl (by simp))]
        walk_at "gz"
      | [a], hr =>
        have ha := hr a (by simp)
        rcases scal_str hs with ⟨w, rfl⟩ | ⟨hs1, hs2⟩
        · walk_at "gz"
          refine fok_imp ha.name ?_
          rintro _ _ rfl
          walk_at "gz"
          cases hn : nmT a with
          | false =>
            refine iT rfl ?_
            walk_at "gz"
            show T.bl false = T.bl (_ && nmT a)
            rw [hn]; simp
          | true =>
            refine iF rfl ?_
            walk_at "gz"
            show T.bl _ = T.bl (_ && nmT a)
            rw [hn]
            simp only [List.any_cons, List.any_nil, eqT_dec, Bool.or_false, Bool.and_true]
        · rw [edB_ns2 hs1]
          walk_at "gz"
          refine w1 hs2 ?_
          walk_at "gz"
      | [a, b], hr =>
        have ha := hr a (by simp)
        have hb := hr b (by simp)
        rcases scal_str hs with ⟨w, rfl⟩ | ⟨hs1, hs2⟩
        · walk_at "gz"
          refine fok_imp ha.name ?_
          rintro _ _ rfl
          walk_at "gz"
          cases hn : nmT a with
          | false =>
            refine iT rfl ?_
            walk_at "gz"
            show T.bl false = T.bl (_ && (nmT a && _))
            rw [hn]; simp
          | true =>
            refine iF rfl ?_
            walk_at "gz"
            by_cases hw : w = wTurn
            · refine iT (decide_eq_true hw) ?_
              walk_at "gz"
              refine fok_imp hb.name ?_
              rintro _ _ rfl
              walk_at "gz"
              cases hm : nmT b with
              | false =>
                refine iF rfl ?_
                show T.bl false = T.bl (_ && (_ && (nmT b && _)))
                rw [hm]; simp
              | true =>
                refine iT rfl ?_
                obtain ⟨za, rfl, _⟩ := nm_str hn
                obtain ⟨zb, rfl, _⟩ := nm_str hm
                walk_at "gz"
                show T.bl _ = T.bl (decide _ && (nmT _ && (nmT _ && !tEq (.str za) (.str zb))))
                rw [hn, hm, decide_eq_true hw, eqT_dec]
                have : decide (za = zb) = decide (zb = za) := by simp only [eq_comm]
                rw [this]; rfl
            · refine iF (decide_eq_false hw) ?_
              show T.bl false = T.bl (decide (w = wTurn) && _)
              rw [decide_eq_false hw]; rfl
        · rw [edB_ns3 hs1]
          walk_at "gz"
          refine w1 hs2 ?_
          walk_at "gz"
      | a :: b :: c :: r, _ =>
        rw [edB_len (.inr (by simp))]
        walk_at "gz"
        refine iT (decide_eq_true (by simp; omega)) ?_
        walk_at "gz"
theorem letters_ok (z : Str) : (z.cps.toList.filter fun c => !decide (c ∈ abcS.cps.toList)).length = 0 ↔ ∀ c ∈ z.cps.toList, c ∈ abcS.cps.toList := by
  rw [List.length_eq_zero_iff, List.filter_eq_nil_iff]
  constructor
  · intro h c hc
    have := h c hc
    simpa using this
  · intro h c hc
    simp [h c hc]
theorem lgood_any {y : T} (h : ItE y) : Fok f__law_good [y] fun w _ => w = .bl (edB y) := by
  have hsz : (10000 : Nat) < szL := by decide
  refine fok_at (τ0 := [some _, none, none]) rfl ?_
  unfold st__law_good
  rcases h with ⟨h, e⟩ | ⟨xs, rfl, h⟩
  · rw [e]
    walk_at "gz"
    refine w1 h ?_
    walk_at "gz"
  · rcases h with h | h | ⟨h0, r, rfl, hs, hr⟩
    · rw [edB_len (.inl h)]
      walk_at "gz"
      refine iT (decide_eq_true (by omega)) ?_
      walk_at "gz"
    · rw [edB_len (.inr h)]
      walk_at "gz"
      refine iF (decide_eq_false (by omega)) ?_
      walk_at "gz"
      refine iT (decide_eq_true (by omega)) ?_
      walk_at "gz"
    by_cases hl1 : (h0 :: r).length < 2
    · rw [edB_len (.inl hl1)]
      walk_at "gz"
      refine iT (decide_eq_true (by omega)) ?_
      walk_at "gz"
    by_cases hl2 : 3 < (h0 :: r).length
    · rw [edB_len (.inr hl2)]
      walk_at "gz"
      refine iF (decide_eq_false (by omega)) ?_
      walk_at "gz"
      refine iT (decide_eq_true (by omega)) ?_
      walk_at "gz"
    walk_at "gz"
    refine iF (decide_eq_false (by omega)) ?_
    walk_at "gz"
    refine iF (decide_eq_false (by omega)) ?_
    walk_at "gz"
    have ec : cut (h0 :: r) (some 1) none = r := by
      unfold cut
      show List.take _ (List.drop 1 (h0 :: r)) = r
      rw [List.drop_succ_cons, List.drop_zero]
      refine List.take_of_length_le ?_
      show r.length ≤ (r.length + 1) - 1
      omega
    rw [ec]
    refine ok_walkT (fun dn τ => (∀ x ∈ dn, nmT x = true) ∧ ∃ a1, τ = [some (T.tup (h0 :: r)), a1, none]) ⟨by simp, _, rfl⟩ ?_ ?_
    · rintro dn x r' τ ex ⟨hd, a1, rfl⟩
      have hxr : x ∈ r := by rw [← ex]; simp
      refine ok_put ?_
      have bad : nmT x = false → edB (T.tup (h0 :: r)) = false := edB_nm hxr
      rcases hr x hxr with ⟨z, rfl, hz⟩ | ⟨h1, h2⟩
      · walk_at "gz"
        by_cases he : z = PySem.Str.ofString ""
        · refine iT (decide_eq_true he) ?_
          walk_at "gz"
          subst he
          rw [bad (by decide +kernel)]
        refine iF (decide_eq_false he) ?_
        walk_at "gz"
        refine w1 (a := .int (z.length : Nat)) (by show (if z.length ≤ szL then _ else _) = _; rw [if_pos (by omega)]) ?_
        walk_at "gz"
        have hzl : z.cps.toList.length < szL := by
          have : z.cps.toList.length = z.length := by simp [PySem.Str.length]
          omega
        by_cases h8 : z.length ≤ 8
        · refine iF (decide_eq_false (by omega)) ?_
          walk_at "gz"
          refine ok_lcP (enc := fun c => T.str ⟨#[c]⟩) (fun c => !decide (c ∈ abcS.cps.toList)) (fun c => T.str ⟨#[c]⟩) rfl hzl ?_ ?_
          · intro c hc
            refine ok_put (ok_noE ?_)
            walk_at "gz"
            refine ⟨rfl, iB (fun _ => ?_) (fun _ => rfl)⟩
            refine ok_noE ?_
            walk_at "gz"
            exact ⟨trivial, rfl⟩
          · walk_at "gz"
            by_cases hlt : (z.cps.toList.filter fun c => !decide (c ∈ abcS.cps.toList)).length = 0
            · refine iF (decide_eq_false (by rw [List.length_map]; omega)) ?_
              walk_at "gz"
              have hnz : nameB z = true := by
                unfold nameB
                have hl1 : 1 ≤ z.length := by
                  rcases Nat.lt_or_ge 0 z.length with h | h
                  · exact h
                  · refine absurd ?_ he
                    obtain ⟨cps⟩ := z
                    have : cps = #[] := Array.eq_empty_of_size_eq_zero (by simpa [PySem.Str.length] using h)
                    subst this; decide +kernel
                rw [decide_eq_true hl1, decide_eq_true h8, List.all_eq_true.mpr fun c hc => decide_eq_true ((letters_ok z).mp hlt c hc)]; rfl
              refine ⟨fun x hx => ?_, _, rfl⟩
              rcases List.mem_append.mp hx with hx | hx
              · exact hd x hx
              · rw [List.mem_singleton.mp hx]; exact hnz
            · refine iT (decide_eq_true (by rw [List.length_map]; omega)) ?_
              walk_at "gz"
              rw [bad ?_]
              show nameB z = false
              unfold nameB
              have : (z.cps.toList.all fun c => decide (c ∈ abcS.cps.toList)) = false := by
                rw [← Bool.not_eq_true]
                intro h
                refine hlt ((letters_ok z).mpr fun c hc => ?_)
                simpa using List.all_eq_true.mp h c hc
              rw [this]; simp
        · refine iT (decide_eq_true (by omega)) ?_
          walk_at "gz"
          rw [bad (by show nameB z = false; unfold nameB; rw [decide_eq_false h8]; simp)]
      · walk_at "gz"
        refine w1 h1 ?_
        walk_at "gz"
        rw [bad h2]
    · rintro τ ⟨hd, a1, rfl⟩
      walk_at "gz"
      match r, hd, hl1, hl2, hr with
      | [], _, hl1, _, _ => exact (hl1 (by simp)).elim
      | [a], hd, _, _, _ =>
        have hn := hd a (by simp)
        walk_at "gz"
        rcases scal_str hs with ⟨w, rfl⟩ | ⟨hs1, hs2⟩
        · refine w1 (eq_strs _ _) ?_
          refine wb ?_
          by_cases h1 : w = wKeep
          · refine iT (decide_eq_true h1) ?_
            show T.bl true = T.bl ((decide (w = wKeep) || _) && nmT a)
            rw [decide_eq_true h1, hn]; rfl
          refine iF (decide_eq_false h1) ?_
          walk_at "gz"
          by_cases h2 : w = wDrop
          · refine iT (decide_eq_true h2) ?_
            show T.bl true = T.bl ((decide (w = wKeep) || (decide (w = wDrop) || _)) && nmT a)
            rw [decide_eq_false h1, decide_eq_true h2, hn]; rfl
          refine iF (decide_eq_false h2) ?_
          walk_at "gz"
          show T.bl _ = T.bl ((decide (w = wKeep) || (decide (w = wDrop) || decide (w = wPut))) && nmT a)
          rw [decide_eq_false h1, decide_eq_false h2, hn]; simp
        · rw [edB_ns2 hs1]
          refine w1 (scal_eq hs hs1 _) ?_
          refine wb (iF rfl ?_)
          walk_at "gz"
          refine w1 (scal_eq hs hs1 _) ?_
          refine wb (iF rfl ?_)
          walk_at "gz"
          exact w1 (scal_eq hs hs1 _) rfl
      | [a, b], hd, _, _, _ =>
        have hn := hd a (by simp)
        have hm := hd b (by simp)
        obtain ⟨za, rfl, _⟩ := nm_str hn
        obtain ⟨zb, rfl, _⟩ := nm_str hm
        walk_at "gz"
        rcases scal_str hs with ⟨w, rfl⟩ | ⟨hs1, hs2⟩
        · refine w1 (eq_strs _ _) ?_
          refine wb ?_
          by_cases h1 : w = wTurn
          · refine iT (decide_eq_true h1) ?_
            walk_at "gz"
            show T.bl _ = T.bl (decide (w = wTurn) && (nmT (.str za) && (nmT (.str zb) && !tEq (.str za) (.str zb))))
            rw [hn, hm, decide_eq_true h1, eqT_dec]
            have : decide (za = zb) = decide (zb = za) := by simp only [eq_comm]
            rw [this]; rfl
          · refine iF (decide_eq_false h1) ?_
            show T.bl false = T.bl (decide (w = wTurn) && _)
            rw [decide_eq_false h1]; rfl
        · rw [edB_ns3 hs1]
          refine w1 (scal_eq hs hs1 _) ?_
          exact wb (iF rfl rfl)
      | a :: b :: c :: d, _, _, hl2, _ => exact (hl2 (by simp)).elim
end
section
theorem cat_str {z : Str} (hz : z.length ≤ 1000) (k : Str) (hk : k.length ≤ 100) : oAdd (.str z) (.str k) = some (.str (z ++ k)) := by
  have hsz : (10000 : Nat) < szL := by decide
  show (if z.length + k.length ≤ szL then some (T.str (z ++ k)) else none) = _
  rw [if_pos (by omega)]
theorem len_app (z k : Str) : (z ++ k).length = z.length + k.length := by
  show (z.cps ++ k.cps).size = _
  rw [Array.size_append]; rfl
theorem itN_str {z : Str} (h : z.length ≤ 1000) : ItN (.str z) := .inl ⟨z, rfl, h⟩
theorem itE_other {y : T} (h : oIsA y ["tuple"] = some (.bl false)) (h2 : edB y = false) : ItE y := .inl ⟨h, h2⟩
theorem itE_two {h a : T} (hs : isScal h = true) (ha : ItN a) : ItE (.tup [h, a]) := .inr ⟨_, rfl, .inr (.inr ⟨h, [a], rfl, hs, fun x hx => by rw [List.mem_singleton.mp hx]; exact ha⟩)⟩
theorem itE_three {h a b : T} (hs : isScal h = true) (ha : ItN a) (hb : ItN b) : ItE (.tup [h, a, b]) := .inr ⟨_, rfl, .inr (.inr ⟨h, [a, b], rfl, hs, fun x hx => by
  rcases List.mem_cons.mp hx with e | e
  · rw [e]; exact ha
  · rw [List.mem_singleton.mp e]; exact hb⟩)⟩
theorem itE_one {xs : List T} (h : xs.length < 2 ∨ 3 < xs.length) : ItE (.tup xs) := .inr ⟨xs, rfl, h.imp id .inl⟩
theorem itE_oneB {xs : List T} (h : (decide (xs.length < 2) || decide (3 < xs.length)) = true) : ItE (.tup xs) := itE_one (by simpa using h)
theorem lstrange_ok {cells great : List Int} {c : Int} {z : Str} (h : Good cells great c) (hz : z.length ≤ 1000) :
    Fok f__law_strange [purseT cells great c, .str z] fun w ps => ∃ g' c', ItE w ∧ ps = [some (purseT cells g' c'), some (.str z)] ∧ Good cells g' c' := by
  have hsz : (10000 : Nat) < szL := by decide
  refine fok_at (τ0 := [some _, some _, none, none, none]) rfl ?_
  unfold st__law_strange
  walk_at "gz"
  refine ok_walk (fun _ τ => ∃ (xs : List T) (a3 : Option T), τ = [some (purseT cells great c), some (.str z), some (.lst xs), a3, none]) ⟨_, _, rfl⟩ ?_ ?_
  · rintro dn j r τ ej ⟨xs, a3, rfl⟩
    refine ok_put ?_
    walk_at "gz"
    exact ⟨_, _, rfl⟩
  · rintro τ ⟨xs, a3, rfl⟩
    walk_at "gz"
    refine w1 (cat_str hz (PySem.Str.ofString " ") (by decide +kernel)) ?_
    walk_at "gz"
    refine fok_imp (draw_ok h (many := 16) (by omega) (by omega)) ?_
    rintro _ _ ⟨r, g1, rfl, hr0, hr1, rfl, hg1⟩
    walk_at "gz"
    have hr : r = 0 ∨ r = 1 ∨ r = 2 ∨ r = 3 ∨ r = 4 ∨ r = 5 ∨ r = 6 ∨ r = 7 ∨ r = 8 ∨ r = 9 ∨ r = 10 ∨ r = 11 ∨ r = 12 ∨ r = 13 ∨ r = 14 ∨ r = 15 := by omega
    rcases hr with rfl | rfl | rfl | rfl | rfl | rfl | rfl | rfl | rfl | rfl | rfl | rfl | rfl | rfl | rfl | rfl
    all_goals refine w1 rfl ?_
    all_goals first
      | exact ⟨g1, _, itE_other rfl rfl, rfl, hg1⟩
      | exact ⟨g1, _, itE_oneB rfl, rfl, hg1⟩
theorem lbaditem_ok {cells great : List Int} {c : Int} {z : Str} (h : Good cells great c) (hn : NameOk z) :
    Fok f__law_bad_edit [purseT cells great c, .str z] fun w ps => ∃ g' c', ItE w ∧ ps = [some (purseT cells g' c'), some (.str z)] ∧ Good cells g' c' := by
  have hsz : (10000 : Nat) < szL := by decide
  have hz8 : z.length ≤ 8 := hn.hi
  have hz : z.length ≤ 1000 := by omega
  have hA := fun (k : Str) (hk : k.length ≤ 100) => cat_str hz k hk
  have hI := itN_str hz
  refine fok_at (τ0 := [some _, some _, none, none, none]) rfl ?_
  unfold st__law_bad_edit
  walk_at "gz"
  refine fok_imp (draw_ok h (many := 3) (by omega) (by omega)) ?_
  rintro _ _ ⟨r, g1, rfl, hr0, hr1, rfl, hg1⟩
  walk_at "gz"
  by_cases h0 : r = 0
  · refine iT (decide_eq_true h0) ?_
    walk_at "gz"
    refine fok_imp (lstrange_ok hg1 hz) ?_
    rintro w _ ⟨g2, c2, hw, rfl, hg2⟩
    walk_at "gz"
    exact ⟨g2, c2, hw, rfl, hg2⟩
  refine iF (decide_eq_false h0) ?_
  walk_at "gz"
  by_cases h1 : r = 1
  · refine iT (decide_eq_true h1) ?_
    walk_at "gz"
    refine fok_imp (draw_ok hg1 (many := 4) (by omega) (by omega)) ?_
    rintro _ _ ⟨r4, g4, rfl, hr40, hr41, rfl, hg4⟩
    walk_at "gz"
    obtain ⟨w, hw⟩ : ∃ w : Str, oGet (T.lst [.str wKeep, .str wDrop, .str wPut, .str wTurn]) (.int r4) = some (.str w) := by
      have h4 : r4 = 0 ∨ r4 = 1 ∨ r4 = 2 ∨ r4 = 3 := by omega
      rcases h4 with rfl | rfl | rfl | rfl <;> exact ⟨_, rfl⟩
    refine w1 hw ?_
    walk_at "gz"
    refine w1 (hA (PySem.Str.ofString "1") (by decide +kernel)) ?_
    walk_at "gz"
    refine fok_imp (draw_ok hg4 (many := 7) (by omega) (by omega)) ?_
    rintro _ _ ⟨r7, g7, rfl, hr70, hr71, rfl, hg7⟩
    walk_at "gz"
    obtain ⟨b, hb, hbn⟩ : ∃ b : T, oGet (T.lst [.non, .str (PySem.Str.ofString ""), .str (PySem.Str.ofString "Ab"), .str (z ++ PySem.Str.ofString "1"), .str (PySem.Str.ofString "abcdefghi"), .int 7, .tup [.str z]]) (.int r7) = some b ∧ ItN b := by
      have h4 : r7 = 0 ∨ r7 = 1 ∨ r7 = 2 ∨ r7 = 3 ∨ r7 = 4 ∨ r7 = 5 ∨ r7 = 6 := by omega
      rcases h4 with rfl | rfl | rfl | rfl | rfl | rfl | rfl
      · exact ⟨_, rfl, .inr ⟨rfl, rfl⟩⟩
      · exact ⟨_, rfl, itN_str (by decide +kernel)⟩
      · exact ⟨_, rfl, itN_str (by decide +kernel)⟩
      · refine ⟨_, rfl, itN_str ?_⟩
        rw [len_app]
        have : z.length ≤ 8 := hn.hi
        have : (PySem.Str.ofString "1").length = 1 := by decide +kernel
        omega
      · exact ⟨_, rfl, itN_str (by decide +kernel)⟩
      · exact ⟨_, rfl, .inr ⟨rfl, rfl⟩⟩
      · exact ⟨_, rfl, .inr ⟨rfl, rfl⟩⟩
    refine w1 hb ?_
    walk_at "gz"
    refine fok_imp (draw_ok hg7 (many := 3) (by omega) (by omega)) ?_
    rintro _ _ ⟨r3, g3, rfl, hr30, hr31, rfl, hg3⟩
    walk_at "gz"
    have h3 : r3 = 0 ∨ r3 = 1 ∨ r3 = 2 := by omega
    rcases h3 with rfl | rfl | rfl
    · refine w1 rfl ?_
      exact ⟨g3, _, itE_two rfl hbn, rfl, hg3⟩
    · refine w1 rfl ?_
      exact ⟨g3, _, itE_three rfl hbn hI, rfl, hg3⟩
    · refine w1 rfl ?_
      exact ⟨g3, _, itE_three rfl hI hbn, rfl, hg3⟩
  refine iF (decide_eq_false h1) ?_
  walk_at "gz"
  refine w1 (hA (PySem.Str.ofString "a") (by decide +kernel)) ?_
  have hI2 : ItN (.str (z ++ PySem.Str.ofString "a")) := by
    refine itN_str ?_
    rw [len_app]
    have : z.length ≤ 8 := hn.hi
    have : (PySem.Str.ofString "a").length = 1 := by decide +kernel
    omega
  walk_at "gz"
  refine fok_imp (draw_ok hg1 (many := 12) (by omega) (by omega)) ?_
  rintro _ _ ⟨r3, g3, rfl, hr30, hr31, rfl, hg3⟩
  walk_at "gz"
  have h3 : r3 = 0 ∨ r3 = 1 ∨ r3 = 2 ∨ r3 = 3 ∨ r3 = 4 ∨ r3 = 5 ∨ r3 = 6 ∨ r3 = 7 ∨ r3 = 8 ∨ r3 = 9 ∨ r3 = 10 ∨ r3 = 11 := by omega
  have hK : ItN (.str wKeep) := itN_str (by decide +kernel)
  rcases h3 with rfl | rfl | rfl | rfl | rfl | rfl | rfl | rfl | rfl | rfl | rfl | rfl
  all_goals refine w1 rfl ?_
  all_goals first
    | exact ⟨g3, _, itE_other rfl rfl, rfl, hg3⟩
    | exact ⟨g3, _, itE_two rfl hI, rfl, hg3⟩
    | exact ⟨g3, _, itE_two rfl hK, rfl, hg3⟩
    | exact ⟨g3, _, itE_three rfl hI hI, rfl, hg3⟩
    | exact ⟨g3, _, itE_three rfl hI hI2, rfl, hg3⟩
    | exact ⟨g3, _, itE_oneB rfl, rfl, hg3⟩
    | exact ⟨g3, _, itE_oneB rfl, rfl, hg3⟩
end
section
def fbad : List T → Option Nat
  | [] => none
  | y :: r => if edB y = true then (fbad r).map (· + 1) else some 0
theorem fbad_none : ∀ {xs : List T}, fbad xs = none → ∀ y ∈ xs, edB y = true
  | y :: r, h, x, hx => by
    unfold fbad at h
    by_cases hy : edB y = true
    · rw [if_pos hy, Option.map_eq_none_iff] at h
      rcases List.mem_cons.mp hx with e | e
      · rw [e]; exact hy
      · exact fbad_none h x e
    · rw [if_neg hy] at h; cases h
theorem fbad_some : ∀ {xs : List T} {k : Nat}, fbad xs = some k → ∃ a y b, xs = a ++ y :: b ∧ a.length = k ∧ (∀ x ∈ a, edB x = true) ∧ edB y = false
  | y :: r, k, h => by
    unfold fbad at h
    by_cases hy : edB y = true
    · rw [if_pos hy] at h
      obtain ⟨j, hj, rfl⟩ := Option.map_eq_some_iff.mp h
      obtain ⟨a, z, b, rfl, h1, h2, h3⟩ := fbad_some hj
      exact ⟨y :: a, z, b, rfl, by rw [List.length_cons, h1], fun x hx => by
        rcases List.mem_cons.mp hx with e | e
        · rw [e]; exact hy
        · exact h2 x e, h3⟩
    · rw [if_neg hy] at h
      cases h
      exact ⟨[], y, r, rfl, rfl, by simp, by simpa using hy⟩
theorem edB_ed {y : T} (h : edB y = true) : ∃ e, y = edT e ∧ NameE e := by
  unfold edB at h
  split at h
  · rename_i w a
    rw [Bool.and_eq_true] at h
    obtain ⟨z, rfl, hz⟩ := nm_str h.2
    have h1 := h.1
    simp only [Bool.or_eq_true, decide_eq_true_eq] at h1
    rcases h1 with rfl | rfl | rfl
    · exact ⟨.keep z, rfl, hz⟩
    · exact ⟨.drop z, rfl, hz⟩
    · exact ⟨.put z, rfl, hz⟩
  · rename_i w a b
    simp only [Bool.and_eq_true, decide_eq_true_eq] at h
    obtain ⟨rfl, h1, h2, h3⟩ := h
    obtain ⟨x, rfl, hx⟩ := nm_str h1
    obtain ⟨y, rfl, hy⟩ := nm_str h2
    refine ⟨.turn x y, rfl, hx, hy, fun e => ?_⟩
    subst e
    rw [eqT_dec, decide_eq_true rfl] at h3
    cases h3
  · cases h
theorem eds_of : ∀ {xs : List T}, (∀ y ∈ xs, edB y = true) → ∃ es : List Ed, xs = es.map edT ∧ ∀ e ∈ es, NameE e
  | [], _ => ⟨[], rfl, by simp⟩
  | y :: r, h => by
    obtain ⟨e, rfl, he⟩ := edB_ed (h y (by simp))
    obtain ⟨es, rfl, hes⟩ := eds_of (xs := r) fun x hx => h x (by simp [hx])
    exact ⟨e :: es, rfl, fun x hx => by
      rcases List.mem_cons.mp hx with e2 | e2
      · rw [e2]; exact he
      · exact hes x e2⟩
theorem it_good {y : T} (h : ItE y) (e : edB y = true) : GoodE y := by
  have := is_edit_any h
  rw [e] at this; exact this
theorem it_bad {y : T} (h : ItE y) (e : edB y = false) : BadE y := by
  have := is_edit_any h
  rw [e] at this; exact this
theorem bads_any {q : Bool} {xs : List T} {k : Nat} (hl : xs.length ≤ 5000) (h : ∀ y ∈ xs, ItE y) (e : fbad xs = some k) : BadS (sqF q xs) k := by
  obtain ⟨a, y, b, rfl, h1, h2, h3⟩ := fbad_some e
  have := bad_at (b := q) hl (fun x hx => it_good (h x (by simp [hx])) (h2 x hx)) (it_bad (h y (by simp)) h3)
  rw [h1] at this; exact this
theorem range_split {n k : Nat} (h : k < n) : List.range n = List.range k ++ k :: (List.range (n - k - 1)).map (fun i => k + 1 + i) := by
  have e : n = k + (1 + (n - k - 1)) := by omega
  rw [e, List.range_add, List.range_add, List.map_append]
  congr 1
  have e2 : k + (1 + (n - k - 1)) - k - 1 = n - k - 1 := by omega
  rw [e2]
  simp [Nat.add_assoc]
theorem fbad_filter {xs : List T} {p : Nat → Bool} (hp : ∀ i y, xs[i]? = some y → p i = !edB y) : ((List.range xs.length).filter p).take 1 = (fbad xs).toList := by
  cases e : fbad xs with
  | none =>
    have h := fbad_none e
    have : (List.range xs.length).filter p = [] := List.filter_eq_nil_iff.mpr fun i hi => by
      rw [List.mem_range] at hi
      rw [hp i _ (List.getElem?_eq_getElem hi), h _ (List.getElem_mem hi)]; simp
    rw [this]; rfl
  | some k =>
    obtain ⟨a, y, b, rfl, h1, h2, h3⟩ := fbad_some e
    have hk : k < (a ++ y :: b).length := by simp; omega
    rw [range_split hk, List.filter_append, List.filter_cons_of_pos]
    · have : (List.range k).filter p = [] := List.filter_eq_nil_iff.mpr fun i hi => by
        rw [List.mem_range] at hi
        have hi2 : i < a.length := by omega
        rw [hp i a[i] (by rw [List.getElem?_append_left hi2, List.getElem?_eq_getElem hi2]), h2 _ (List.getElem_mem hi2)]; simp
      rw [this]; rfl
    · rw [hp k y (by rw [← h1, List.getElem?_append_right (Nat.le_refl _)]; simp), h3]; rfl
theorem sq_get {q : Bool} {xs : List T} {k : Nat} {y : T} (h : xs[k]? = some y) : oGet (sqF q xs) (.int (0 + (k : Int))) = some y := by
  rw [Int.zero_add]
  cases q
  · exact pyAt_nat h
  · exact pyAt_nat h
theorem lplace_step {q : Bool} {xs : List T} (h : ∀ y ∈ xs, ItE y) : ∀ k ∈ List.range xs.length, Ok (put 1 (T.int (0 + (k : Int)))) [some (sqF q xs), none] fun _ τ1 =>
    Ok (noE (notT (tst (callA f__law_good (consA (op2 oGet (TL.get 0) (TL.get 1)) nilA))))) τ1 fun b τ2 => b = (match xs[k]? with | some y => !edB y | none => true) ∧ if b = true then Ok (noE (TL.get 1)) τ2 fun w τ3 => w = .int (0 + (k : Int)) ∧ wipeT τ3 [1] = [some (sqF q xs), none] else wipeT τ2 [1] = [some (sqF q xs), none] := by
  intro k hk
  rw [List.mem_range] at hk
  have hg := List.getElem?_eq_getElem hk
  refine ok_put (ok_noE ?_)
  walk_at "gz"
  refine w1 (sq_get (q := q) hg) ?_
  walk_at "gz"
  refine fok_imp (lgood_any (h _ (List.getElem_mem hk))) ?_
  rintro _ _ rfl
  walk_at "gz"
  rw [hg]
  refine ⟨rfl, iB (fun _ => ?_) (fun _ => rfl)⟩
  refine ok_noE ?_
  walk_at "gz"
  exact ⟨trivial, rfl⟩
theorem lplace_fin (xs : List T) : imms (cut (((List.range xs.length).filter fun i => match xs[i]? with | some y => !edB y | none => true).map fun k : Nat => T.int (0 + (k : Int))) none (some 1)) = true ∧
    T.lst (cut (((List.range xs.length).filter fun i => match xs[i]? with | some y => !edB y | none => true).map fun k : Nat => T.int (0 + (k : Int))) none (some 1)) = T.lst ((fbad xs).toList.map fun k : Nat => T.int (0 + (k : Int))) := by
  have hf := fbad_filter (xs := xs) (p := fun i => match xs[i]? with | some y => !edB y | none => true) fun i y h => by simp only [h]
  have hc : ∀ ys : List T, cut ys none (some 1) = ys.take 1 := fun ys => by
    unfold cut
    show List.take (ixS ys.length ys.length (some 1) - 0) (List.drop 0 ys) = _
    rw [List.drop_zero, Nat.sub_zero]
    have e : ixS ys.length ys.length (some 1) = min 1 ys.length := by
      show (if (1 : Int) < 0 then ((1 : Int) + (ys.length : Int)).toNat else min (1 : Int).toNat ys.length) = _
      rw [if_neg (by omega)]; rfl
    rw [e]
    cases ys with
    | nil => rfl
    | cons a r => rw [Nat.min_eq_left (by simp)]
  rw [hc, ← List.map_take, hf]
  refine ⟨?_, rfl⟩
  cases fbad xs <;> rfl
theorem lplace_any {q : Bool} {xs : List T} (hl : xs.length ≤ 5000) (h : ∀ y ∈ xs, ItE y) : Fok f__law_place [sqF q xs] fun w _ => w = .lst ((fbad xs).toList.map fun k : Nat => T.int (0 + (k : Int))) := by
  have hsz : (10000 : Nat) < szL := by decide
  refine fok_at (τ0 := [some _, none]) rfl ?_
  unfold st__law_place
  walk_at "gz"
  cases q
  · refine w1 (a := .bl true) rfl ?_
    walk_at "gz"
    refine iF (decide_eq_false (by omega)) ?_
    walk_at "gz"
    refine ok_lcP (enc := fun i : Nat => T.int (0 + (i : Int))) (fun i => match xs[i]? with | some y => !edB y | none => true) (fun k => .int (0 + (k : Int))) rfl (by rw [List.length_range]; omega) (lplace_step (q := false) h) ?_
    walk_at "gz"
    exact lplace_fin _
  · refine w1 (a := T.bl false) rfl ?_
    walk_at "gz"
    refine iF (decide_eq_false (by omega)) ?_
    walk_at "gz"
    refine ok_lcP (enc := fun i : Nat => T.int (0 + (i : Int))) (fun i => match xs[i]? with | some y => !edB y | none => true) (fun k => .int (0 + (k : Int))) rfl (by rw [List.length_range]; omega) (lplace_step (q := true) h) ?_
    walk_at "gz"
    exact lplace_fin _
theorem lplace_long {q : Bool} {xs : List T} (hl : 5000 < xs.length) : Fok f__law_place [sqF q xs] fun w _ => w = .lst [.int (-1)] := by
  refine fok_at (τ0 := [some _, none]) rfl ?_
  unfold st__law_place
  walk_at "gz"
  cases q
  · refine w1 (a := .bl true) rfl ?_
    walk_at "gz"
    refine iT (decide_eq_true (by omega)) ?_
    walk_at "gz"
  · refine w1 (a := T.bl false) rfl ?_
    walk_at "gz"
    refine iT (decide_eq_true (by omega)) ?_
    walk_at "gz"
theorem lplace_other {v : T} (h1 : oIsA v ["list"] = some (.bl false)) (h2 : oIsA v ["tuple"] = some (.bl false)) : Fok f__law_place [v] fun w _ => w = .lst [.int (-1)] := by
  refine fok_at (τ0 := [some _, none]) rfl ?_
  unfold st__law_place
  walk_at "gz"
  refine w1 h1 ?_
  walk_at "gz"
  refine w1 h2 ?_
  walk_at "gz"
theorem bads_other {v : T} (h1 : oIsA v ["list", "tuple"] = some (.bl false)) : BadS v (-1) := by
  have hi : Fok f_is_items [v] fun w _ => w = .bl false := by
    refine fok_at (τ0 := [some _]) rfl ?_
    unfold st_is_items
    walk_at "gz"
    refine w1 h1 ?_
    walk_at "gz"
  refine fok_at (τ0 := [some _, none, none]) rfl ?_
  unfold st_bad_edit
  walk_at "gz"
  refine fok_imp hi ?_
  rintro _ _ rfl
  walk_at "gz"
end
section
abbrev xNum : Str := PySem.Str.ofString "NoNumber"
theorem source_bad {v : T} {k : Int} (h : BadS v k) : Fxc f_source [v] fun x => x = ⟨xBad, [(kPlace, .int k)]⟩ := by
  refine fxc_at (τ0 := [some _, none]) rfl ?_
  unfold st_source
  refine xc_seq1 (xc_drop (xc_callA ?_))
  walk_at "gz"
  exact need_bad h
theorem target_bad {v : T} {k : Int} (h : BadS v k) : Fxc f_target [v] fun x => x = ⟨xBad, [(kPlace, .int k)]⟩ := by
  refine fxc_at (τ0 := [some _, none]) rfl ?_
  unfold st_target
  refine xc_seq1 (xc_drop (xc_callA ?_))
  walk_at "gz"
  exact need_bad h
theorem cost_bad {v : T} {k : Int} (h : BadS v k) : Fxc f_cost [v] fun x => x = ⟨xBad, [(kPlace, .int k)]⟩ := by
  refine fxc_at (τ0 := [some _, none]) rfl ?_
  unfold st_cost
  refine xc_seq1 (xc_drop (xc_callA ?_))
  walk_at "gz"
  exact need_bad h
theorem need_eds {q : Bool} {es : List Ed} (hl : es.length ≤ 5000) (hn : ∀ e ∈ es, NameE e) : Fok f_need_script [sqF q (es.map edT)] fun w _ => w = .non := need_good (by rw [List.length_map]; exact hl) fun x hx => by
  obtain ⟨e, he, rfl⟩ := List.mem_map.mp hx
  exact good_ed (hn e he)
theorem source_any {q : Bool} {es : List Ed} (hl : es.length ≤ 5000) (hn : ∀ e ∈ es, NameE e) : Fok f_source [sqF q (es.map edT)] fun _ _ => True := by
  have hsz : (10000 : Nat) < szL := by decide
  refine fok_atX (τ0 := [some _, none]) rfl ?_
  unfold st_source
  walk_at "go"
  refine fok_imp (need_eds hl hn) ?_
  rintro _ _ rfl
  walk_at "go"
  refine w1 (sqF_el q _) ?_
  refine ok_lcP (fun e => !decide (e.kind = PySem.Str.ofString "put")) (fun e => .str e.fst) rfl (by omega) ?_ ?_
  · intro e he
    refine ok_put ?_
    walk_at "go"
    refine w1 (ed_kind e) ?_
    walk_at "go"
    refine ⟨by first | rfl | trivial, ?_⟩
    refine iB (fun _ => ?_) (fun _ => rfl)
    walk_at "go"
    refine w1 (ed_fst e) ?_
    walk_at "go"
    exact ⟨by first | rfl | trivial, rfl⟩
  · have em : (es.filter fun e => !decide (e.kind = PySem.Str.ofString "put")).map (fun e => T.str e.fst) = (srcE es).map .str := by unfold srcE; rw [List.map_map]; rfl
    rw [em]
    walk_at "go"
    exact ⟨_, rfl, imms_strs _, trivial⟩
theorem target_any {q : Bool} {es : List Ed} (hl : es.length ≤ 5000) (hn : ∀ e ∈ es, NameE e) : Fok f_target [sqF q (es.map edT)] fun _ _ => True := by
  have hsz : (10000 : Nat) < szL := by decide
  refine fok_atX (τ0 := [some _, none]) rfl ?_
  unfold st_target
  walk_at "go"
  refine fok_imp (need_eds hl hn) ?_
  rintro _ _ rfl
  walk_at "go"
  refine w1 (sqF_el q _) ?_
  refine ok_lcP (fun e => !decide (e.kind = PySem.Str.ofString "drop")) (fun e => .str e.lst) rfl (by omega) ?_ ?_
  · intro e he
    refine ok_put ?_
    walk_at "go"
    refine w1 (ed_kind e) ?_
    walk_at "go"
    refine ⟨by first | rfl | trivial, ?_⟩
    refine iB (fun _ => ?_) (fun _ => rfl)
    walk_at "go"
    refine w1 (a := T.int (-1)) rfl ?_
    refine w1 (ed_lst e) ?_
    walk_at "go"
    exact ⟨by first | rfl | trivial, rfl⟩
  · have em : (es.filter fun e => !decide (e.kind = PySem.Str.ofString "drop")).map (fun e => T.str e.lst) = (tgtE es).map .str := by unfold tgtE; rw [List.map_map]; rfl
    rw [em]
    walk_at "go"
    exact ⟨_, rfl, imms_strs _, trivial⟩
theorem cost_any {q : Bool} {es : List Ed} (hl : es.length ≤ 5000) (hn : ∀ e ∈ es, NameE e) : Fok f_cost [sqF q (es.map edT)] fun _ _ => True := by
  have hsz : (10000 : Nat) < szL := by decide
  refine fok_atX (τ0 := [some _, none]) rfl ?_
  unfold st_cost
  walk_at "go"
  refine fok_imp (need_eds hl hn) ?_
  rintro _ _ rfl
  walk_at "go"
  refine w1 (sqF_el q _) ?_
  refine ok_lcP (fun e => !decide (e.kind = PySem.Str.ofString "keep")) edT rfl (by omega) ?_ ?_
  · intro e he
    refine ok_put ?_
    walk_at "go"
    refine w1 (ed_kind e) ?_
    walk_at "go"
    refine ⟨by first | rfl | trivial, ?_⟩
    refine iB (fun _ => ?_) (fun _ => rfl)
    walk_at "go"
    refine ⟨imm_ed e, ?_⟩
    exact ⟨by first | rfl | trivial, rfl⟩
  · walk_at "gz"
theorem need_out : Fxc f_need_within [.int 9, .int 0, .int 8] fun x => x = ⟨xNum, []⟩ := by
  refine fxc_at (τ0 := [some _, some _, some _]) rfl ?_
  unfold st_need_within
  refine xc_if ?_
  walk_at "gz"
  refine fok_imp (Q := fun w _ => w = .bl false) ?_ ?_
  · refine fok_at (τ0 := [some _, some _, some _]) rfl ?_
    unfold st_is_within
    walk_at "gz"
    refine fok_imp (Q := fun w _ => w = .bl true) ?_ ?_
    · refine fok_at (τ0 := [some _]) rfl ?_
      unfold st_is_integer
      walk_at "gz"
      exact congrArg T.bl (by decide)
    rintro _ _ rfl
    walk_at "gz"
    exact congrArg T.bl (by decide)
  rintro _ _ rfl
  walk_at "gz"
  refine xc_raise ?_
  exact ok_pure ⟨rfl, rfl⟩
theorem turned_num {v : T} (h : Fok f_need_script [v] fun w _ => w = .non) : Fxc f_turned [.lst [], .tup [], v, .int 9] fun x => x = ⟨xNum, []⟩ := by
  have h0 : ∀ q : Bool, Fok f_need_script [sqF q []] fun w _ => w = .non := fun q => need_good (by simp) (by simp)
  refine fxc_at (τ0 := [some _, some _, some _, some _, none]) rfl ?_
  unfold st_turned
  refine xc_seq2 ?_
  walk_at "go"
  refine w1 (a := T.tup [.lst [], .tup [], v]) rfl ?_
  refine w1 rfl ?_
  refine ok_sForB (ok_put ?_)
  walk_at "go"
  refine fok_imp (h0 false) ?_
  rintro _ _ rfl
  refine ⟨by first | rfl | trivial, ok_sForB (ok_put ?_)⟩
  walk_at "go"
  refine fok_imp (h0 true) ?_
  rintro _ _ rfl
  refine ⟨by first | rfl | trivial, ok_sForB (ok_put ?_)⟩
  walk_at "go"
  refine fok_imp h ?_
  rintro _ _ rfl
  refine ⟨by first | rfl | trivial, ok_sForN ?_⟩
  refine ⟨by first | rfl | trivial, xc_seq1 (xc_drop (xc_callA ?_))⟩
  walk_at "gz"
  exact need_out
/-- which way a question goes -/
theorem lask_bad {v : T} {k : Int} (h : BadS v k) (w : Nat) (hw : w < 6) : Fok f__law_ask [.int (0 + (w : Int)), v] fun r _ => r = .lst [.int k] := by
  have h0 : ∀ q : Bool, Fok f_need_script [sqF q []] fun w _ => w = .non := fun q => need_good (by simp) (by simp)
  refine fok_at (τ0 := [some _, some _, none, none]) rfl ?_
  unfold st__law_ask
  have hc : w = 0 ∨ w = 1 ∨ w = 2 ∨ w = 3 ∨ w = 4 ∨ w = 5 := by omega
  refine ok_seq (ok_tryX ?_)
  rcases hc with rfl | rfl | rfl | rfl | rfl | rfl
  · refine xc_seq1 (xc_if ?_)
    walk_at "gz"
    refine xc_drop (xc_callA ?_)
    walk_at "gz"
    refine fxc_imp (source_bad h) ?_
    rintro _ rfl
    refine ⟨by simp [csX], ok_hand1 (show exSub xBad (PySem.Str.ofString "BadScript") = true by decide +kernel) ?_⟩
    walk_at "gz"
  · refine xc_seq2 ?_
    walk_at "gz"
    refine ⟨by first | rfl | trivial, ?_⟩
    refine xc_seq1 (xc_if ?_)
    walk_at "gz"
    refine xc_drop (xc_callA ?_)
    walk_at "gz"
    refine fxc_imp (target_bad h) ?_
    rintro _ rfl
    refine ⟨by simp [csX], ok_hand1 (show exSub xBad (PySem.Str.ofString "BadScript") = true by decide +kernel) ?_⟩
    walk_at "gz"
  · refine xc_seq2 ?_
    walk_at "gz"
    refine ⟨by first | rfl | trivial, ?_⟩
    refine xc_seq2 ?_
    walk_at "gz"
    refine ⟨by first | rfl | trivial, ?_⟩
    refine xc_seq1 (xc_if ?_)
    walk_at "gz"
    refine xc_drop (xc_callA ?_)
    walk_at "gz"
    refine fxc_imp (cost_bad h) ?_
    rintro _ rfl
    refine ⟨by simp [csX], ok_hand1 (show exSub xBad (PySem.Str.ofString "BadScript") = true by decide +kernel) ?_⟩
    walk_at "gz"
  · refine xc_seq2 ?_
    walk_at "gz"
    refine ⟨by first | rfl | trivial, ?_⟩
    refine xc_seq2 ?_
    walk_at "gz"
    refine ⟨by first | rfl | trivial, ?_⟩
    refine xc_seq2 ?_
    walk_at "gz"
    refine ⟨by first | rfl | trivial, ?_⟩
    refine xc_seq1 (xc_if ?_)
    walk_at "gz"
    refine xc_drop (xc_callA ?_)
    walk_at "gz"
    refine fxc_imp (turned_bad1 h) ?_
    rintro _ rfl
    refine ⟨by simp [csX], ok_hand1 (show exSub xBad (PySem.Str.ofString "BadScript") = true by decide +kernel) ?_⟩
    walk_at "gz"
  · refine xc_seq2 ?_
    walk_at "gz"
    refine ⟨by first | rfl | trivial, ?_⟩
    refine xc_seq2 ?_
    walk_at "gz"
    refine ⟨by first | rfl | trivial, ?_⟩
    refine xc_seq2 ?_
    walk_at "gz"
    refine ⟨by first | rfl | trivial, ?_⟩
    refine xc_seq2 ?_
    walk_at "gz"
    refine ⟨by first | rfl | trivial, ?_⟩
    refine xc_seq1 (xc_if ?_)
    walk_at "gz"
    refine xc_drop (xc_callA ?_)
    walk_at "gz"
    refine fxc_imp (turned_bad2 (h0 false) h) ?_
    rintro _ rfl
    refine ⟨by simp [csX], ok_hand1 (show exSub xBad (PySem.Str.ofString "BadScript") = true by decide +kernel) ?_⟩
    walk_at "gz"
  · refine xc_seq2 ?_
    walk_at "gz"
    refine ⟨by first | rfl | trivial, ?_⟩
    refine xc_seq2 ?_
    walk_at "gz"
    refine ⟨by first | rfl | trivial, ?_⟩
    refine xc_seq2 ?_
    walk_at "gz"
    refine ⟨by first | rfl | trivial, ?_⟩
    refine xc_seq2 ?_
    walk_at "gz"
    refine ⟨by first | rfl | trivial, ?_⟩
    refine xc_seq2 ?_
    walk_at "gz"
    refine ⟨by first | rfl | trivial, ?_⟩
    refine xc_if ?_
    walk_at "gz"
    refine xc_drop (xc_callA ?_)
    walk_at "gz"
    refine fxc_imp (turned_bad3 (h0 false) (h0 true) h) ?_
    rintro _ rfl
    refine ⟨by simp [csX], ok_hand1 (show exSub xBad (PySem.Str.ofString "BadScript") = true by decide +kernel) ?_⟩
    walk_at "gz"
def ansG13 : Nat → T
  | 4 => .lst [.int (-1)]
  | 5 => .lst [.str (PySem.Str.ofString "number")]
  | _ => .lst []
theorem lask_good {q : Bool} {es : List Ed} (hl : es.length ≤ 5000) (hn : ∀ e ∈ es, NameE e) (w : Nat) (hw : w < 6) : Fok f__law_ask [.int (0 + (w : Int)), sqF q (es.map edT)] fun r _ => r = ansG13 w := by
  have h0 : ∀ q : Bool, Fok f_need_script [sqF q []] fun w _ => w = .non := fun q => need_good (by simp) (by simp)
  have h7 : BadS (.int 7) (-1) := bads_other rfl
  refine fok_at (τ0 := [some _, some _, none, none]) rfl ?_
  unfold st__law_ask
  have hc : w = 0 ∨ w = 1 ∨ w = 2 ∨ w = 3 ∨ w = 4 ∨ w = 5 := by omega
  refine ok_seq ?_
  rcases hc with rfl | rfl | rfl | rfl | rfl | rfl
  · refine ok_tryO ?_
    walk_at "gz"
    refine fok_imp (source_any hl hn) ?_
    rintro _ _ _
    walk_at "gz"
    rfl
  · refine ok_tryO ?_
    walk_at "gz"
    refine fok_imp (target_any hl hn) ?_
    rintro _ _ _
    walk_at "gz"
    rfl
  · refine ok_tryO ?_
    walk_at "gz"
    refine fok_imp (cost_any hl hn) ?_
    rintro _ _ _
    walk_at "gz"
    rfl
  · refine ok_tryO ?_
    walk_at "gz"
    refine fok_imp (turned_good (a := es) (t := []) (c := []) (qa := q) (qt := false) (qc := false) (n := 0) (by omega) hl (by simp) (by simp) hn (by simp) (by simp) (by simp; omega)) ?_
    rintro _ _ _
    walk_at "gz"
    rfl
  · refine ok_tryX ?_
    refine xc_seq2 ?_
    walk_at "gz"
    refine ⟨by first | rfl | trivial, ?_⟩
    refine xc_seq2 ?_
    walk_at "gz"
    refine ⟨by first | rfl | trivial, ?_⟩
    refine xc_seq2 ?_
    walk_at "gz"
    refine ⟨by first | rfl | trivial, ?_⟩
    refine xc_seq2 ?_
    walk_at "gz"
    refine ⟨by first | rfl | trivial, ?_⟩
    refine xc_seq1 (xc_if ?_)
    walk_at "gz"
    refine xc_drop (xc_callA ?_)
    walk_at "gz"
    refine fxc_imp (turned_bad3 (h0 false) (need_eds hl hn) h7) ?_
    rintro _ rfl
    refine ⟨by simp [csX], ok_hand1 (show exSub xBad (PySem.Str.ofString "BadScript") = true by decide +kernel) ?_⟩
    walk_at "gz"
    rfl
  · refine ok_tryX ?_
    refine xc_seq2 ?_
    walk_at "gz"
    refine ⟨by first | rfl | trivial, ?_⟩
    refine xc_seq2 ?_
    walk_at "gz"
    refine ⟨by first | rfl | trivial, ?_⟩
    refine xc_seq2 ?_
    walk_at "gz"
    refine ⟨by first | rfl | trivial, ?_⟩
    refine xc_seq2 ?_
    walk_at "gz"
    refine ⟨by first | rfl | trivial, ?_⟩
    refine xc_seq2 ?_
    walk_at "gz"
    refine ⟨by first | rfl | trivial, ?_⟩
    refine xc_if ?_
    walk_at "gz"
    refine xc_drop (xc_callA ?_)
    walk_at "gz"
    refine fxc_imp (turned_num (need_eds hl hn)) ?_
    rintro _ rfl
    refine ⟨by simp [csX], ok_handN (show exSub xNum (PySem.Str.ofString "BadScript") = false by decide +kernel) (ok_hand0 (show exSub xNum (PySem.Str.ofString "NoNumber") = true by decide +kernel) ?_)⟩
    walk_at "gz"
    rfl
/-- a value and its place: what the law asks -/
structure Seen (v : T) (pl : List T) : Prop where
  place : Fok f__law_place [v] fun w _ => w = .lst pl
  ask : (pl = [] ∧ ∀ w : Nat, w < 6 → Fok f__law_ask [.int (0 + (w : Int)), v] fun r _ => r = ansG13 w) ∨ ∃ k : Int, pl = [T.int k] ∧ ∀ w : Nat, w < 6 → Fok f__law_ask [.int (0 + (w : Int)), v] fun r _ => r = T.lst [.int k]
theorem seen_sq {q : Bool} {xs : List T} (h : ∀ y ∈ xs, ItE y) : ∃ pl, Seen (sqF q xs) pl := by
  rcases Nat.lt_or_ge 5000 xs.length with hl | hl
  · exact ⟨_, lplace_long hl, .inr ⟨-1, rfl, lask_bad (bad_long hl)⟩⟩
  · refine ⟨_, lplace_any hl h, ?_⟩
    cases e : fbad xs with
    | none =>
      obtain ⟨es, rfl, hn⟩ := eds_of (fbad_none e)
      rw [List.length_map] at hl
      exact .inl ⟨rfl, lask_good hl hn⟩
    | some k =>
      refine .inr ⟨0 + (k : Int), rfl, lask_bad ?_⟩
      rw [Int.zero_add]
      exact bads_any hl h e
theorem seen_other {v : T} (h1 : oIsA v ["list"] = some (.bl false)) (h2 : oIsA v ["tuple"] = some (.bl false)) (h3 : oIsA v ["list", "tuple"] = some (.bl false)) : ∃ pl, Seen v pl := ⟨_, lplace_other h1 h2, .inr ⟨-1, rfl, lask_bad (bads_other h3)⟩⟩
end
end
end My
end
section
set_option Elab.async false
set_option Elab.async false
set_option linter.all false
set_option autoImplicit false
set_option maxHeartbeats 1000000
set_option maxRecDepth 100000
namespace My
open PySem TL TL.Pl
local macro_rules | `(tactic| walk_at "g1") => `(tactic| first
  | ((with_reducible refine okGc ?_); (first | with_reducible refine ok_seq ?_ | with_reducible refine ok_set ?_ | with_reducible refine ok_ret ?_ | with_reducible refine ok_drop ?_ | with_reducible refine ok_if ?_ | with_reducible refine ok_nx ?_ | with_reducible refine ok_sSetL ?_ | with_reducible refine ok_sSetI ?_ | with_reducible refine ok_sSet2 ?_ | with_reducible refine ok_sFldM ?_ | with_reducible refine ok_unp ?_ | with_reducible refine ok_only ?_ | with_reducible refine ok_must ?_ | with_reducible refine ok_for ?_ | with_reducible refine ok_noE ?_))
  | ((with_reducible refine okGt ?_); (first | with_reducible refine ok_get rfl ?_ | with_reducible refine ok_con ?_ | with_reducible refine ok_op2 ?_ | with_reducible refine ok_fnA ?_ | with_reducible refine ok_toI ?_ | with_reducible refine ok_callA ?_ | with_reducible refine ok_callL ?_ | with_reducible refine ok_op1 ?_ | with_reducible refine ok_mv rfl ?_ | with_reducible refine ok_newA ?_ | with_reducible refine ok_newI ?_ | with_reducible refine ok_toS ?_ | with_reducible refine ok_isa ?_ | with_reducible refine ok_isaI ?_ | with_reducible refine ok_isaO ?_ | with_reducible refine ok_fld ?_ | with_reducible refine ok_chain ?_ | with_reducible refine ok_andM ?_ | with_reducible refine ok_orM ?_ | with_reducible refine ok_notM ?_ | with_reducible refine ok_makeA ?_ | with_reducible refine ok_cutN ?_ | with_reducible refine ok_cutI ?_ | with_reducible refine ok_get1M ?_ | with_reducible refine ok_ifE ?_ | with_reducible refine ok_appS ?_ | with_reducible refine ok_sLc ?_ | with_reducible refine ok_sDc ?_ | with_reducible refine ok_clearM ?_ | with_reducible refine ok_sApp2 ?_ | with_reducible refine ok_sClear2 ?_ | with_reducible refine ok_strM ?_ | with_reducible refine ok_tupA ?_ | with_reducible refine ok_catTA ?_ | with_reducible refine ok_revI ?_ | with_reducible refine ok_inO ?_ | with_reducible refine ok_ixO ?_ | with_reducible refine ok_repM ?_ | with_reducible refine ok_repTA ?_ | with_reducible refine ok_mvA ?_ | with_reducible refine ok_sAddS ?_ | with_reducible refine ok_set1M ?_ | with_reducible refine ok_noE ?_))
  | ((with_reducible refine okGl ?_); (first | with_reducible refine ok_cons ?_ | with_reducible refine ok_nil ?_ | with_reducible refine ok_elems ?_ | with_reducible refine ok_selfA ?_ | with_reducible refine ok_propA ?_ | with_reducible refine ok_rng1 ?_ | with_reducible refine ok_rng2 ?_ | with_reducible refine ok_enum ?_ | with_reducible refine ok_valsM ?_ | with_reducible refine ok_starM ?_ | with_reducible refine ok_starFM ?_ | with_reducible refine ok_noE ?_))
  | ((with_reducible refine okGb ?_); (first | with_reducible refine ok_tst ?_ | with_reducible refine ok_andT ?_ | with_reducible refine ok_orT ?_ | with_reducible refine ok_notT ?_ | with_reducible refine ok_truT ?_ | with_reducible refine ok_noE ?_))
  | ((with_reducible refine okGo ?_); (first | with_reducible refine ok_noPart ?_ | with_reducible refine ok_part ?_))
  | ((with_reducible refine okGu ?_); (first | with_reducible refine ok_putT2 ?_ | with_reducible refine ok_putT3 ?_))
  | ((with_reducible refine w1G ?_); (first | ((with_reducible refine gGet ?_); (first | with_reducible refine w1 (v_p0 _ _ _ _) ?_ | with_reducible refine w1 (v_p1 _ _ _ _) ?_ | with_reducible refine w1 (v_p2 _ _ _ _) ?_ | with_reducible refine w1 (v_p3 _ _ _ _) ?_ | with_reducible refine w1 (key_fst _) ?_ | with_reducible refine w1 (key_snd _) ?_)) | ((with_reducible refine gFld ?_); (first | with_reducible refine w1 (v_al _ _ _ _ _) ?_ | with_reducible refine w1 (v_or _ _ _ _ _) ?_ | with_reducible refine w1 (v_ed _ _ _ _ _) ?_ | with_reducible refine w1 (v_en _ _ _ _ _) ?_ | with_reducible refine w1 (v_pl _ _ _ _ _) ?_)) | ((with_reducible refine gCls ?_); (first | with_reducible refine w1 (v_cm _ _ _ _ _) ?_)) | ((with_reducible refine gTup ?_); (first | with_reducible refine w1 (v_key _ _) ?_ | with_reducible refine w1 (v_tup0) ?_)) | ((with_reducible refine gLen ?_); (first | with_reducible refine w1 (v_len _) ?_ | with_reducible refine w1 (v_lenT _) ?_ | with_reducible refine w1 (v_lenM _) ?_)) | ((with_reducible refine gLt ?_); (first | with_reducible refine w1 (v_lt _ _) ?_)) | ((with_reducible refine gLe ?_); (first | with_reducible refine w1 (v_le _ _) ?_)) | ((with_reducible refine gGt ?_); (first | with_reducible refine w1 (v_gt _ _) ?_)) | ((with_reducible refine gGe ?_); (first | with_reducible refine w1 (v_ge _ _) ?_)) | ((with_reducible refine gAdd ?_); (first | with_reducible refine w1 (v_add _ _) ?_)) | ((with_reducible refine gSub ?_); (first | with_reducible refine w1 (v_sub _ _) ?_)) | ((with_reducible refine gEq ?_); (first | with_reducible refine w1 (v_eqI _ _) ?_ | with_reducible refine w1 (eq_strs _ _) ?_)) | ((with_reducible refine gNe ?_); (first | with_reducible refine w1 (v_neI _ _) ?_ | with_reducible refine w1 (v_neS _ _) ?_)) | ((with_reducible refine gIn ?_); (first | with_reducible refine w1 (in_strs _ _) ?_ | with_reducible refine w1 (v_inM _ _) ?_ | with_reducible refine w1 (v_inO _ _) ?_)) | ((with_reducible refine gNin ?_); (first | with_reducible refine w1 (notIn_strs _ _) ?_ | with_reducible refine w1 (v_notInM _ _) ?_)) | ((with_reducible refine gIs ?_); (first | with_reducible refine w1 (v_isO _) ?_ | with_reducible refine w1 (v_isS _) ?_ | with_reducible refine w1 (v_isN) ?_ | with_reducible refine w1 (v_isI _) ?_)) | ((with_reducible refine gNis ?_); (first | with_reducible refine w1 (v_notO _) ?_ | with_reducible refine w1 (v_notS _) ?_ | with_reducible refine w1 (v_notN) ?_ | with_reducible refine w1 (v_notI _) ?_)) | ((with_reducible refine gList ?_); (first | with_reducible refine w1 (v_list _) ?_ | with_reducible refine w1 (v_listR _) ?_)) | ((with_reducible refine gEl ?_); (first | with_reducible refine w1 (v_el _) ?_ | with_reducible refine w1 (v_elR _) ?_ | with_reducible refine w1 (elems_moves _) ?_)) | ((with_reducible refine gLst ?_); (first | with_reducible refine w1 (v_lst0) ?_))))
  | ((with_reducible refine gImm ?_); (first | with_reducible refine v_imS ?_ | with_reducible refine v_imI ?_ | with_reducible refine v_imN ?_ | with_reducible refine v_imB ?_ | with_reducible refine v_imO ?_ | with_reducible refine v_imK ?_ | with_reducible refine v_imR ?_))
  | ((with_reducible refine gEx ?_); (first | with_reducible refine wb ?_ | with_reducible refine wstr ?_ | with_reducible refine v_mvs _ ?_ | with_reducible refine v_kk _ ?_))
  | ((with_reducible refine gIf ?_); (first | with_reducible refine iTrue ?_ | with_reducible refine iFalse ?_ | refine iF (show _ = false from rfl) ?_ | refine iT (show _ = true from rfl) ?_))
  | simp only [List.set_cons_zero, List.set_cons_succ]
  | dsimp only)
local macro_rules | `(tactic| walk_at "go") => `(tactic| repeat (first
  | ((with_reducible refine okGc ?_); (first | with_reducible refine ok_seq ?_ | with_reducible refine ok_set ?_ | with_reducible refine ok_ret ?_ | with_reducible refine ok_drop ?_ | with_reducible refine ok_if ?_ | with_reducible refine ok_nx ?_ | with_reducible refine ok_sSetL ?_ | with_reducible refine ok_sSetI ?_ | with_reducible refine ok_sSet2 ?_ | with_reducible refine ok_sFldM ?_ | with_reducible refine ok_unp ?_ | with_reducible refine ok_only ?_ | with_reducible refine ok_must ?_ | with_reducible refine ok_for ?_ | with_reducible refine ok_noE ?_))
  | ((with_reducible refine okGt ?_); (first | with_reducible refine ok_get rfl ?_ | with_reducible refine ok_con ?_ | with_reducible refine ok_op2 ?_ | with_reducible refine ok_fnA ?_ | with_reducible refine ok_toI ?_ | with_reducible refine ok_callA ?_ | with_reducible refine ok_callL ?_ | with_reducible refine ok_op1 ?_ | with_reducible refine ok_mv rfl ?_ | with_reducible refine ok_newA ?_ | with_reducible refine ok_newI ?_ | with_reducible refine ok_toS ?_ | with_reducible refine ok_isa ?_ | with_reducible refine ok_isaI ?_ | with_reducible refine ok_isaO ?_ | with_reducible refine ok_fld ?_ | with_reducible refine ok_chain ?_ | with_reducible refine ok_andM ?_ | with_reducible refine ok_orM ?_ | with_reducible refine ok_notM ?_ | with_reducible refine ok_makeA ?_ | with_reducible refine ok_cutN ?_ | with_reducible refine ok_cutI ?_ | with_reducible refine ok_get1M ?_ | with_reducible refine ok_ifE ?_ | with_reducible refine ok_appS ?_ | with_reducible refine ok_sLc ?_ | with_reducible refine ok_sDc ?_ | with_reducible refine ok_clearM ?_ | with_reducible refine ok_sApp2 ?_ | with_reducible refine ok_sClear2 ?_ | with_reducible refine ok_strM ?_ | with_reducible refine ok_tupA ?_ | with_reducible refine ok_catTA ?_ | with_reducible refine ok_revI ?_ | with_reducible refine ok_inO ?_ | with_reducible refine ok_ixO ?_ | with_reducible refine ok_repM ?_ | with_reducible refine ok_repTA ?_ | with_reducible refine ok_mvA ?_ | with_reducible refine ok_sAddS ?_ | with_reducible refine ok_set1M ?_ | with_reducible refine ok_noE ?_))
  | ((with_reducible refine okGl ?_); (first | with_reducible refine ok_cons ?_ | with_reducible refine ok_nil ?_ | with_reducible refine ok_elems ?_ | with_reducible refine ok_selfA ?_ | with_reducible refine ok_propA ?_ | with_reducible refine ok_rng1 ?_ | with_reducible refine ok_rng2 ?_ | with_reducible refine ok_enum ?_ | with_reducible refine ok_valsM ?_ | with_reducible refine ok_starM ?_ | with_reducible refine ok_starFM ?_ | with_reducible refine ok_noE ?_))
  | ((with_reducible refine okGb ?_); (first | with_reducible refine ok_tst ?_ | with_reducible refine ok_andT ?_ | with_reducible refine ok_orT ?_ | with_reducible refine ok_notT ?_ | with_reducible refine ok_truT ?_ | with_reducible refine ok_noE ?_))
  | ((with_reducible refine okGo ?_); (first | with_reducible refine ok_noPart ?_ | with_reducible refine ok_part ?_))
  | ((with_reducible refine okGu ?_); (first | with_reducible refine ok_putT2 ?_ | with_reducible refine ok_putT3 ?_))
  | ((with_reducible refine w1G ?_); (first | ((with_reducible refine gGet ?_); (first | with_reducible refine w1 (v_p0 _ _ _ _) ?_ | with_reducible refine w1 (v_p1 _ _ _ _) ?_ | with_reducible refine w1 (v_p2 _ _ _ _) ?_ | with_reducible refine w1 (v_p3 _ _ _ _) ?_ | with_reducible refine w1 (key_fst _) ?_ | with_reducible refine w1 (key_snd _) ?_)) | ((with_reducible refine gFld ?_); (first | with_reducible refine w1 (v_al _ _ _ _ _) ?_ | with_reducible refine w1 (v_or _ _ _ _ _) ?_ | with_reducible refine w1 (v_ed _ _ _ _ _) ?_ | with_reducible refine w1 (v_en _ _ _ _ _) ?_ | with_reducible refine w1 (v_pl _ _ _ _ _) ?_)) | ((with_reducible refine gCls ?_); (first | with_reducible refine w1 (v_cm _ _ _ _ _) ?_)) | ((with_reducible refine gTup ?_); (first | with_reducible refine w1 (v_key _ _) ?_ | with_reducible refine w1 (v_tup0) ?_)) | ((with_reducible refine gLen ?_); (first | with_reducible refine w1 (v_len _) ?_ | with_reducible refine w1 (v_lenT _) ?_ | with_reducible refine w1 (v_lenM _) ?_)) | ((with_reducible refine gLt ?_); (first | with_reducible refine w1 (v_lt _ _) ?_)) | ((with_reducible refine gLe ?_); (first | with_reducible refine w1 (v_le _ _) ?_)) | ((with_reducible refine gGt ?_); (first | with_reducible refine w1 (v_gt _ _) ?_)) | ((with_reducible refine gGe ?_); (first | with_reducible refine w1 (v_ge _ _) ?_)) | ((with_reducible refine gAdd ?_); (first | with_reducible refine w1 (v_add _ _) ?_)) | ((with_reducible refine gSub ?_); (first | with_reducible refine w1 (v_sub _ _) ?_)) | ((with_reducible refine gEq ?_); (first | with_reducible refine w1 (v_eqI _ _) ?_ | with_reducible refine w1 (eq_strs _ _) ?_)) | ((with_reducible refine gNe ?_); (first | with_reducible refine w1 (v_neI _ _) ?_ | with_reducible refine w1 (v_neS _ _) ?_)) | ((with_reducible refine gIn ?_); (first | with_reducible refine w1 (in_strs _ _) ?_ | with_reducible refine w1 (v_inM _ _) ?_ | with_reducible refine w1 (v_inO _ _) ?_)) | ((with_reducible refine gNin ?_); (first | with_reducible refine w1 (notIn_strs _ _) ?_ | with_reducible refine w1 (v_notInM _ _) ?_)) | ((with_reducible refine gIs ?_); (first | with_reducible refine w1 (v_isO _) ?_ | with_reducible refine w1 (v_isS _) ?_ | with_reducible refine w1 (v_isN) ?_ | with_reducible refine w1 (v_isI _) ?_)) | ((with_reducible refine gNis ?_); (first | with_reducible refine w1 (v_notO _) ?_ | with_reducible refine w1 (v_notS _) ?_ | with_reducible refine w1 (v_notN) ?_ | with_reducible refine w1 (v_notI _) ?_)) | ((with_reducible refine gList ?_); (first | with_reducible refine w1 (v_list _) ?_ | with_reducible refine w1 (v_listR _) ?_)) | ((with_reducible refine gEl ?_); (first | with_reducible refine w1 (v_el _) ?_ | with_reducible refine w1 (v_elR _) ?_ | with_reducible refine w1 (elems_moves _) ?_)) | ((with_reducible refine gLst ?_); (first | with_reducible refine w1 (v_lst0) ?_))))
  | ((with_reducible refine gImm ?_); (first | with_reducible refine v_imS ?_ | with_reducible refine v_imI ?_ | with_reducible refine v_imN ?_ | with_reducible refine v_imB ?_ | with_reducible refine v_imO ?_ | with_reducible refine v_imK ?_ | with_reducible refine v_imR ?_))
  | ((with_reducible refine gEx ?_); (first | with_reducible refine wb ?_ | with_reducible refine wstr ?_ | with_reducible refine v_mvs _ ?_ | with_reducible refine v_kk _ ?_))
  | ((with_reducible refine gIf ?_); (first | with_reducible refine iTrue ?_ | with_reducible refine iFalse ?_ | refine iF (show _ = false from rfl) ?_ | refine iT (show _ = true from rfl) ?_))
  | simp only [List.set_cons_zero, List.set_cons_succ]
  | dsimp only))
local macro_rules | `(tactic| walk_at "gw") => `(tactic| repeat (first | walk_at "g1" | ((with_reducible refine w1G ?_); refine w1 (by exact rfl) ?_)))
local macro_rules | `(tactic| walk_at "gz") => `(tactic| repeat (first
  | walk_at "g1"
  | (with_reducible refine gRng ?_; refine w1 (fRange1_nat (by omega)) ?_)
  | ((with_reducible refine w1G ?_); refine w1 (by exact rfl) ?_)
  | ((with_reducible refine gImm ?_); refine ⟨by exact rfl, ?_⟩)
  | ((with_reducible refine gImms ?_); refine ⟨by exact rfl, ?_⟩)
  | ((with_reducible refine gApp ?_); refine ⟨⟨_, rfl⟩, ?_⟩)
  | ((with_reducible refine gAppX ?_); refine ⟨⟨_, rfl⟩, ?_⟩)
  | ((with_reducible refine gIf ?_); (first | refine iT (by decide +kernel) ?_ | refine iF (by decide +kernel) ?_))
  | ((with_reducible refine gEx ?_); (first | refine ⟨_, by exact rfl, ?_⟩ | refine ⟨_, _, by exact rfl, by exact rfl, ?_⟩))
  | with_reducible refine ok_exI rfl ?_
  | with_reducible refine ok_exF rfl rfl ?_
  | with_reducible refine ok_cutF ?_
  | with_reducible refine ok_tupF ?_))
theorem itE_ed {e : Ed} (h : NameE e) : ItE (edT e) := by
  cases e with
  | keep x => exact itE_two rfl (itN_str (Nat.le_trans (show x.length ≤ 8 from NameOk.hi h) (by decide)))
  | drop x => exact itE_two rfl (itN_str (Nat.le_trans (show x.length ≤ 8 from NameOk.hi h) (by decide)))
  | put x => exact itE_two rfl (itN_str (Nat.le_trans (show x.length ≤ 8 from NameOk.hi h) (by decide)))
  | turn x y => exact itE_three rfl (itN_str (Nat.le_trans (show x.length ≤ 8 from h.1.hi) (by decide))) (itN_str (Nat.le_trans (show y.length ≤ 8 from h.2.1.hi) (by decide)))
theorem cut_takeT {xs : List T} {a : Nat} (h : a ≤ xs.length) : cut xs none (some (a : Int)) = xs.take a := by
  unfold cut
  rw [ixS_nat h]
  show (List.drop 0 _).take (a - 0) = _
  rw [List.drop_zero, Nat.sub_zero]
theorem cut_dropT {xs : List T} {a : Nat} (h : a ≤ xs.length) : cut xs (some (a : Int)) none = xs.drop a := by
  unfold cut
  rw [ixS_nat h]
  show (List.drop a _).take (xs.length - a) = _
  rw [List.take_of_length_le (by rw [List.length_drop]; exact Nat.le_refl _)]
theorem cat_lst {xs ys : List T} (h : xs.length + ys.length ≤ 100000) : fCat [.lst xs, .lst ys] = some (xs ++ ys) := by
  have hsz : (1000000 : Nat) < szL := by decide
  show (if _ then _ else _) = _
  rw [if_pos (by omega)]
theorem loop13 {cells : List Int} {a0 : Option T} {r : Int} {n : Nat} {zs : List Str} {z : Str} (ez : oGet (strsT zs) (.int 0) = some (.str z)) (hn : NameOk z) {xs : List T} {g : List Int} {c : Int} (hx : ∀ y ∈ xs, ItE y) (hxl : xs.length ≤ 6000) (hnn : n ≤ 3) (hg : Good cells g c) :
    Ok (sFor (put 6) (sSeq (sSet 7 (callL f__law_draw 1 0 (consA (TL.get 1) (consA (op2 oAdd (fnA fLen (consA (TL.get 5) nilA)) (con (.int 1))) nilA))))
      (sSet 5 (newA fCat (consA (newA fCat (consA (cutN (TL.get 5) noPart (part (TL.get 7))) (consA (fnA oLst (consA (callL f__law_bad_edit 1 0 (consA (TL.get 1) (consA (op2 oGet (TL.get 4) (con (.int 0))) nilA))) nilA)) nilA))) (consA (cutN (TL.get 5) (part (op2 oAdd (TL.get 7) (fnA fInt (consA (andM (op2 oEq (TL.get 2) (con (.int 1))) (op2 oLt (TL.get 7) (fnA fLen (consA (TL.get 5) nilA)))) nilA)))) noPart) nilA)))))
      ((List.range n).map fun i : Nat => T.int (0 + (i : Int)))) [a0, some (purseT cells g c), some (.int r), some (.int (n : Int)), some (strsT zs), some (.lst xs), none, none, none, none, none]
      fun ct τ => ct = .nx ∧ ∃ xs' g' c' a6 a7, (∀ y ∈ xs', ItE y) ∧ xs'.length ≤ xs.length + n ∧ Good cells g' c' ∧ τ = [a0, some (purseT cells g' c'), some (.int r), some (.int (n : Int)), some (strsT zs), some (.lst xs'), a6, a7, none, none, none] := by
  refine ok_walk (fun dn τ => ∃ xs' g' c' a6 a7, (∀ y ∈ xs', ItE y) ∧ xs'.length ≤ xs.length + dn.length ∧ Good cells g' c' ∧ τ = [a0, some (purseT cells g' c'), some (.int r), some (.int (n : Int)), some (strsT zs), some (.lst xs'), a6, a7, none, none, none]) ⟨xs, g, c, none, none, hx, by simp, hg, rfl⟩ ?_ ?_
  · rintro dn j r' τ ej ⟨ys, g1, c1, a6, a7, hy, hyl, hg1, rfl⟩
    have hdl : dn.length < n := by
      have := congrArg List.length ej
      rw [List.length_append, List.length_cons, List.length_range] at this
      omega
    refine ok_put ?_
    walk_at "gz"
    refine fok_imp (draw_ok hg1 (many := (ys.length : Int) + 1) (by omega) (by omega)) ?_
    rintro _ _ ⟨a, g2, rfl, ha0, ha1, rfl, hg2⟩
    obtain ⟨a, rfl⟩ : ∃ k : Nat, a = k := ⟨a.toNat, by omega⟩
    have hal : a ≤ ys.length := by omega
    walk_at "gz"
    rw [cut_takeT hal]
    refine w1 ez ?_
    walk_at "gz"
    refine fok_imp (lbaditem_ok hg2 hn) ?_
    rintro y _ ⟨g3, c3, hyi, rfl, hg3⟩
    walk_at "gz"
    refine w1 (cat_lst (by simp; omega)) ?_
    walk_at "gz"
    have res : ∀ b : Nat, a + b ≤ ys.length → (∀ x ∈ ys.take a ++ [y] ++ ys.drop (a + b), ItE x) ∧ (ys.take a ++ [y] ++ ys.drop (a + b)).length ≤ xs.length + (dn ++ [j]).length ∧ fCat [.lst (ys.take a ++ [y]), .lst (ys.drop (a + b))] = some (ys.take a ++ [y] ++ ys.drop (a + b)) := fun b hb => by
      refine ⟨fun x hx => ?_, ?_, cat_lst (by simp; omega)⟩
      · rcases List.mem_append.mp hx with hx | hx
        · rcases List.mem_append.mp hx with hx | hx
          · exact hy x (List.mem_of_mem_take hx)
          · rw [List.mem_singleton.mp hx]; exact hyi
        · exact hy x (List.mem_of_mem_drop hx)
      · simp; omega
    by_cases h1 : r = 1
    · refine iT (decide_eq_true h1) ?_
      walk_at "gz"
      obtain ⟨b, hb, hab⟩ : ∃ b : Nat, (if decide ((a : Int) < (ys.length : Int)) = true then (1 : Int) else 0) = (b : Int) ∧ a + b ≤ ys.length := by
        by_cases h : a < ys.length
        · exact ⟨1, by rw [if_pos (decide_eq_true (by omega))]; rfl, by omega⟩
        · exact ⟨0, by rw [if_neg (by simp; omega)]; rfl, by omega⟩
      rw [hb, ← Int.natCast_add, cut_dropT hab]
      obtain ⟨f1, f2, f3⟩ := res b hab
      refine w1 f3 ?_
      exact ⟨_, g3, c3, _, _, f1, f2, hg3, rfl⟩
    · refine iF (decide_eq_false h1) ?_
      walk_at "gz"
      obtain ⟨f1, f2, f3⟩ := res 0 hal
      rw [show (a : Int) + (if false = true then (1 : Int) else 0) = ((a + 0 : Nat) : Int) by simp, cut_dropT (show a + 0 ≤ ys.length from hal)]
      refine w1 f3 ?_
      exact ⟨_, g3, c3, _, _, f1, f2, hg3, rfl⟩
  · rintro τ ⟨ys, g1, c1, a6, a7, hy, hyl, hg1, rfl⟩
    rw [List.length_range] at hyl
    exact ⟨rfl, ys, g1, c1, a6, a7, hy, hyl, hg1, rfl⟩
theorem end13 {v : T} {pl : List T} (hS : Seen v pl) {a0 a1 a2 a3 a4 a6 a7 : Option T} :
    Ok (sSeq (sSet 9 (fnA oLst (consA (TL.get 8) (consA (TL.get 8) (consA (TL.get 8) (consA (TL.get 8) (consA (TL.get 8) (consA (TL.get 8) nilA))))))))
      (sSeq (sIf (tst (op2 oEq (fnA fLen (consA (TL.get 8) nilA)) (con (.int 0))))
      (sSeq (sSetI 9 (fnA oLst (consA (op1 oNeg (con (.int 1))) nilA)) (con (.int 4)))
      (sSetI 9 (fnA oLst (consA (con (.str (PySem.Str.ofString "number"))) nilA)) (con (.int 5))))
      sNx)
      (sRet (op2 oEq (sLc [10] (rng1 (consA (con (.int 6)) nilA)) (put 10) (noE (M.pure true)) (noE (callA f__law_ask (consA (TL.get 10) (consA (TL.get 5) nilA))))) (TL.get 9)))))
      [a0, a1, a2, a3, a4, some v, a6, a7, some (.lst pl), none, none] fun c τ => match c with
        | .nx => T.non = T.bl true
        | .rt w => w = T.bl true
        | _ => False := by
  have hsz : (10000 : Nat) < szL := by decide
  rcases hS.ask with ⟨rfl, hA⟩ | ⟨k, rfl, hA⟩
  · walk_at "gz"
    trace_state
    refine ok_lcP (enc := fun i : Nat => T.int (0 + (i : Int))) (fun _ => true) ansG13 rfl (by decide) ?_ ?_
    · intro w hw
      rw [List.mem_range] at hw
      refine ok_put (ok_noE (ok_pure ⟨rfl, iT rfl (ok_noE ?_)⟩))
      walk_at "gz"
      refine fok_imp (hA w hw) ?_
      rintro _ _ rfl
      exact ⟨rfl, rfl⟩
    · walk_at "gz"
      refine ⟨_, oEq_of (by decide +kernel) (by decide +kernel), congrArg T.bl (by decide +kernel)⟩
  · walk_at "gz"
    refine ok_lcP (enc := fun i : Nat => T.int (0 + (i : Int))) (fun _ => true) (fun _ => T.lst [.int k]) rfl (by decide) ?_ ?_
    · intro w hw
      rw [List.mem_range] at hw
      refine ok_put (ok_noE (ok_pure ⟨rfl, iT rfl (ok_noE ?_)⟩))
      walk_at "gz"
      refine fok_imp (hA w hw) ?_
      rintro _ _ rfl
      exact ⟨rfl, rfl⟩
    · walk_at "gz"
      have e : (List.filter (fun _ => true) (List.range (Int.toNat 6))).map (fun _ => T.lst [.int k]) = [T.lst [.int k], T.lst [.int k], T.lst [.int k], T.lst [.int k], T.lst [.int k], T.lst [.int k]] := rfl
      rw [e]
      refine congrArg T.bl ?_
      show ((k == k && true) && ((k == k && true) && ((k == k && true) && ((k == k && true) && ((k == k && true) && ((k == k && true) && true)))))) = true
      simp
theorem law_true (ns : List Int) : ∃ τ, f_law [.lst (ns.map .int)] = .ok (.bl true) τ := by
  suffices h : Fok f_law [.lst (ns.map .int)] fun w _ => w = .bl true by
    obtain ⟨w, ps, e, rfl⟩ := h
    exact ⟨ps, e⟩
  have hsz : (10000 : Nat) < szL := by decide
  refine fok_at (τ0 := [some _, none, none, none, none, none, none, none, none, none, none]) rfl ?_
  unfold st_law
  walk_at "gz"
  refine fok_imp (purse_ok ns) ?_
  rintro _ _ ⟨cells, great, rfl, hg⟩
  walk_at "gz"
  refine fok_imp (draw_ok hg (many := 8) (by omega) (by omega)) ?_
  rintro _ _ ⟨r, g1, rfl, hr0, hr1, rfl, hg1⟩
  walk_at "gz"
  refine fok_imp (draw_ok hg1 (many := 3) (by omega) (by omega)) ?_
  rintro _ _ ⟨r2, g2, rfl, hr20, hr21, rfl, hg2⟩
  obtain ⟨n, rfl⟩ : ∃ k : Nat, r2 = k := ⟨r2.toNat, by omega⟩
  walk_at "gz"
  refine fok_imp (names_ok hg2 (many := 2) (by omega)) ?_
  rintro _ _ ⟨zs, g3, c3, rfl, hzl, hzn, hzk, rfl, hg3⟩
  walk_at "gz"
  refine fok_imp (lscript_ok hg3 (toks := zs) (most := 20) (by omega) (by omega) (by omega)) ?_
  rintro _ _ ⟨es, g4, c4, rfl, hel, hen, rfl, hg4⟩
  obtain ⟨z, hz, ez⟩ := strs_get (zs := zs) (i := 0) (by omega) (by omega)
  have hn := hzk z hz
  have hI : ∀ y ∈ es.map edT, ItE y := fun y hy => by
    obtain ⟨e, he, rfl⟩ := List.mem_map.mp hy
    refine itE_ed ?_
    have := hen e he
    cases e with
    | keep x => exact hzk x this
    | drop x => exact hzk x this
    | put x => exact hzk x this
    | turn x y => exact ⟨hzk x this.1, hzk y this.2.1, this.2.2⟩
  have hIl : (es.map edT).length ≤ 20 := by rw [List.length_map]; exact hel
  unfold scrT
  generalize es.map edT = xs at hI hIl ⊢
  have hrep : ∀ m : Nat, (List.replicate m [keyT (wKeep, z)]).flatten = List.replicate m (keyT (wKeep, z)) := fun m => by
    induction m with
    | zero => rfl
    | succ m ih => rw [List.replicate_succ, List.replicate_succ, List.flatten_cons, ih]; rfl
  have hIk : ItE (keyT (wKeep, z)) := itE_two rfl (itN_str (Nat.le_trans (show z.length ≤ 8 from hn.hi) (by decide)))
  have hkk : r = 1 ∨ r ≠ 1 := by omega
  have G := fun (m : Nat) => (⟨hrep m, fun y hy => by rw [List.eq_of_mem_replicate hy]; exact hIk⟩ : (List.replicate m [keyT (wKeep, z)]).flatten = List.replicate m (keyT (wKeep, z)) ∧ ∀ y ∈ List.replicate m (keyT (wKeep, z)), ItE y)
  have hor : ∀ {us vs : List T}, (∀ y ∈ us, ItE y) → (∀ y ∈ vs, ItE y) → ∀ y ∈ us ++ vs, ItE y := fun h1 h2 y hy => (List.mem_append.mp hy).elim (h1 y) (h2 y)
  have S1 := fun (q : Bool) {us : List T} (h : ∀ y ∈ us, ItE y) => seen_sq (q := q) h
  have hsub : ∀ (M : Nat) (us : List T), us.length ≤ M → ((M : Int) - (us.length : Int)) = ((M - us.length : Nat) : Int) := fun M us h => by omega
  have path : ∀ (xs : List T), (∀ y ∈ xs, ItE y) → True := fun _ _ => trivial
  have hr : r = 1 ∨ r = 2 ∨ r = 3 ∨ r = 4 ∨ (r ≠ 1 ∧ r ≠ 2 ∧ r ≠ 3 ∧ r ≠ 4) := by omega
  rcases hr with rfl | rfl | rfl | rfl | ⟨n1, n2, n3, n4⟩
  · walk_at "gz"
    refine w1 ez ?_
    walk_at "gz"
    rw [show (5000 : Int) - (xs.length : Int) = ((5000 - xs.length : Nat) : Int) from hsub 5000 xs (by omega)]
    refine ⟨⟨by omega, by omega, by rw [Int.toNat_natCast]; show 1 * _ ≤ _; omega⟩, ?_⟩
    rw [Int.toNat_natCast, (G _).1]
    walk_at "gz"
    refine w1 (cat_lst (by rw [List.length_replicate]; omega)) ?_
    walk_at "gz"
    refine ok_imp (loop13 ez hn (hor hI (G _).2) (by rw [List.length_append, List.length_replicate]; omega) (by omega) hg4) ?_
    rintro _ _ ⟨rfl, xs', g5, c5, a6, a7, hx5, _, hg5, rfl⟩
    walk_at "gz"
    obtain ⟨pl, hS⟩ := seen_sq (q := false) hx5
    have hS : Seen (.lst xs') pl := hS
    generalize T.lst xs' = v at hS ⊢
    refine fok_imp hS.place ?_
    rintro _ _ rfl
    exact end13 hS
  · walk_at "gz"
    refine ok_imp (loop13 ez hn hI (by omega) (by omega) hg4) ?_
    rintro _ _ ⟨rfl, xs', g5, c5, a6, a7, hx5, hxl5, hg5, rfl⟩
    walk_at "gz"
    refine w1 ez ?_
    walk_at "gz"
    rw [show (5001 : Int) - (xs'.length : Int) = ((5001 - xs'.length : Nat) : Int) from hsub 5001 xs' (by omega)]
    refine ⟨⟨by omega, by omega, by rw [Int.toNat_natCast]; show 1 * _ ≤ _; omega⟩, ?_⟩
    rw [Int.toNat_natCast, (G _).1]
    walk_at "gz"
    refine w1 (cat_lst (by rw [List.length_replicate]; omega)) ?_
    walk_at "gz"
    obtain ⟨pl, hS⟩ := seen_sq (q := false) (hor hx5 (G (5001 - xs'.length)).2)
    have hS : Seen (.lst (xs' ++ List.replicate (5001 - xs'.length) (keyT (wKeep, z)))) pl := hS
    generalize T.lst (xs' ++ List.replicate (5001 - xs'.length) (keyT (wKeep, z))) = v at hS ⊢
    refine fok_imp hS.place ?_
    rintro _ _ rfl
    exact end13 hS
  · walk_at "gz"
    refine ok_imp (loop13 ez hn hI (by omega) (by omega) hg4) ?_
    rintro _ _ ⟨rfl, xs', g5, c5, a6, a7, hx5, hxl5, hg5, rfl⟩
    walk_at "gz"
    refine w1 ez ?_
    walk_at "gz"
    refine ok_dispT ?_
    walk_at "gz"
    refine w1 ez ?_
    walk_at "gz"
    refine ⟨by rfl, ?_⟩
    walk_at "gz"
    refine fok_imp (draw_ok hg5 (many := 6) (by omega) (by omega)) ?_
    rintro _ _ ⟨r6, g6, rfl, hr60, hr61, rfl, hg6⟩
    walk_at "gz"
    obtain ⟨v, hv, pl, hS⟩ : ∃ v : T, oGet (T.lst [.non, .int 7, .str z, .str (PySem.Str.ofString ""), .dct [(T.tup [.str wKeep, .str z], .int 1)], .bl true]) (.int r6) = some v ∧ ∃ pl, Seen v pl := by
      have h6 : r6 = 0 ∨ r6 = 1 ∨ r6 = 2 ∨ r6 = 3 ∨ r6 = 4 ∨ r6 = 5 := by omega
      rcases h6 with rfl | rfl | rfl | rfl | rfl | rfl <;> exact ⟨_, rfl, seen_other rfl rfl rfl⟩
    refine w1 hv ?_
    walk_at "gz"
    refine fok_imp hS.place ?_
    rintro _ _ rfl
    exact end13 hS
  · walk_at "gz"
    refine ok_imp (loop13 ez hn hI (by omega) (by omega) hg4) ?_
    rintro _ _ ⟨rfl, xs', g5, c5, a6, a7, hx5, hxl5, hg5, rfl⟩
    walk_at "gz"
    obtain ⟨pl, hS⟩ := seen_sq (q := true) hx5
    have hS : Seen (.tup xs') pl := hS
    generalize T.tup xs' = v at hS ⊢
    refine fok_imp hS.place ?_
    rintro _ _ rfl
    exact end13 hS
  · walk_at "gz"
    refine iF (decide_eq_false n1) ?_
    walk_at "gz"
    refine ok_imp (loop13 ez hn hI (by omega) (by omega) hg4) ?_
    rintro _ _ ⟨rfl, xs', g5, c5, a6, a7, hx5, hxl5, hg5, rfl⟩
    walk_at "gz"
    refine iF (decide_eq_false n2) ?_
    walk_at "gz"
    refine iF (decide_eq_false n3) ?_
    walk_at "gz"
    refine iF (decide_eq_false n4) ?_
    walk_at "gz"
    obtain ⟨pl, hS⟩ := seen_sq (q := false) hx5
    have hS : Seen (.lst xs') pl := hS
    generalize T.lst xs' = v at hS ⊢
    refine fok_imp hS.place ?_
    rintro _ _ rfl
    exact end13 hS
end My
end
section
set_option Elab.async false
set_option Elab.async false
set_option linter.all false
set_option maxRecDepth 100000
set_option maxHeartbeats 4000000
namespace L2
open PySem PySem.Spec PyProof.Rows
theorem uu64 {k : Nat} {A : Around} (r : Room k A) : A.units + 64 < cLine := by have := r.un; omega
end L2
namespace L2
open PySem PySem.Spec PyProof.Rows
def rSlQ (K : PySem.W.Frag) : V → Option Int → Option Int → Hp → VK → Prop := fun x lo hi H Q => rSlL K x lo hi H Q ∨ rSlA K x lo hi H Q
theorem k_slq {X : Cx} (K : PySem.W.Frag) (h : X.K = K := by rfl) : SlR X (rSlQ K) := by subst h; exact SlR.or sl_list sl_tupA
end L2
namespace L2
open PySem PySem.Spec PyProof.Rows
section
variable {X : Cx}
theorem k_star (K : PySem.W.Frag) {e : Expr} {es : List Expr} {te : TE} {t : TA} {p : Pos} (he : PE X e te) (hr : PA X es t) (h : X.K = K := by rfl) (hs : starEach (.Starred e p :: es) X.env = (true, eval e X.env) :: starEach es X.env := by rfl) : PA X (.Starred e p :: es) (StX.tStar K te t) := by subst h; exact StX.pa_star he hr hs
end
end L2
end
section
set_option Elab.async false
set_option Elab.async false
set_option linter.all false
set_option autoImplicit false
set_option maxRecDepth 100000
set_option maxHeartbeats 4000000
namespace TL
open PySem PySem.Spec PyProof.Rows L2
def ff (i : Nat) : Nat → Nat
  | 0 => i
  | k + 1 => 5 * ff i k + 1
/-- a mask one below a power of two -/
def MkW (m : Nat) : Prop := ∃ e, 1 ≤ e ∧ e ≤ 13 ∧ m + 1 = 2 ^ e
theorem MkW.le {m : Nat} (h : MkW m) : m < 8192 := by
  obtain ⟨e, _, h2, h3⟩ := h
  have : 2 ^ e ≤ 2 ^ 13 := Nat.pow_le_pow_right (by omega) h2
  have e4 : (2 : Nat) ^ 13 = 8192 := by decide
  omega
/-- the masks that come: each four times the one before -/
def Mk6 (m : Nat) : Prop := m = 7 ∨ m = 31 ∨ m = 127 ∨ m = 511 ∨ m = 2047 ∨ m = 8191
theorem Mk6.w {m : Nat} (h : Mk6 m) : MkW m := by
  rcases h with h | h | h | h | h | h <;> subst h
  · exact ⟨3, by decide, by decide, rfl⟩
  · exact ⟨5, by decide, by decide, rfl⟩
  · exact ⟨7, by decide, by decide, rfl⟩
  · exact ⟨9, by decide, by decide, rfl⟩
  · exact ⟨11, by decide, by decide, rfl⟩
  · exact ⟨13, by decide, by decide, rfl⟩
/-- up to the k-th step of h's way all slots hold something -/
def Full (m : Nat) (pl : List Nat) (h : Int) (k : Nat) : Prop := ∀ c, c < k → way m h c ∈ pl
structure TbW (t : SetTable) (hs : List Int) : Prop where
  ris : Ris t.place.toList
  dm : t.dummies = #[]
  sz : t.place.size = hs.length
  msk : MkW t.mask
  way : ∀ (i : Nat) (h : Int) (j : Nat), hs[i]? = some h → t.place.toList[i]? = some j → ∃ k, L2.way t.mask h k = j ∧ Full t.mask t.place.toList h k
/-- what a put leaves -/
structure PutW (t t' : SetTable) (p n : Nat) : Prop where
  mask : t'.mask = t.mask
  led : t'.led = t.led
  fill : t'.fill = n + 1
theorem TbW.put {t : SetTable} {hs : List Int} (T : TbW t hs) {h : Int} {K : Nat} (hK : L2.way t.mask h K ∉ t.place.toList) (hb : Full t.mask t.place.toList h K) :
    ∃ t' p, t.put (L2.way t.mask h K) = (t', p) ∧ p = SetTable.below t.place (L2.way t.mask h K) ∧ p ≤ hs.length ∧ TbW t' (hs.take p ++ h :: hs.drop p) ∧ PutW t t' p hs.length := by
  generalize hj : L2.way t.mask h K = j at hK
  have hle : SetTable.below t.place j ≤ t.place.size := (below_cut T.ris j).1
  have hpl : SetTable.below t.place j ≤ t.place.toList.length := by rw [Array.length_toList]; exact hle
  have hph : SetTable.below t.place j ≤ hs.length := by rw [← T.sz]; exact hle
  have place' := put_place t j
  have size' : (t.put j).1.place.size = hs.length + 1 := by
    rw [← Array.length_toList, place', len_ins _ hpl, Array.length_toList, T.sz]
  have more : ∀ {h' : Int} {k : Nat}, Full t.mask t.place.toList h' k → Full t.mask (t.put j).1.place.toList h' k := fun F c hc => by
    rw [place']; exact mem_ins.2 (.inr (F c hc))
  have new : t.place[SetTable.below t.place j]? ≠ some j := fun e => hK (List.mem_of_getElem? (by rw [Array.getElem?_toList]; exact e))
  refine ⟨(t.put j).1, (t.put j).2, rfl, rfl, hph, ⟨ris_insert T.ris new, put_dm T.dm j, ?_, T.msk, ?_⟩, rfl, rfl, ?_⟩
  · exact size'.trans (len_ins hs hph h).symm
  · intro i h' j' h1 h2
    have h2 : (t.put j).1.place.toList[i]? = some j' := h2
    have h1 : (hs.take (SetTable.below t.place j) ++ h :: hs.drop (SetTable.below t.place j))[i]? = some h' := h1
    rw [tins_get hs hph] at h1
    rw [place', tins_get _ hpl] at h2
    rcases Nat.lt_trichotomy i (SetTable.below t.place j) with c | c | c
    · rw [if_pos c] at h1 h2
      obtain ⟨k, e, F⟩ := T.way i h' j' h1 h2
      exact ⟨k, e, more F⟩
    · rw [if_neg (by omega), if_pos c] at h1 h2
      cases h1; cases h2
      exact ⟨K, hj, more hb⟩
    · rw [if_neg (by omega), if_neg (by omega)] at h1 h2
      obtain ⟨k, e, F⟩ := T.way (i - 1) h' j' h1 h2
      exact ⟨k, e, more F⟩
  · show (t.put j).1.place.size + (t.put j).1.dummies.size = hs.length + 1
    rw [size', put_dm T.dm j]; rfl
end TL
end
section
set_option Elab.async false
set_option Elab.async false
set_option linter.all false
set_option autoImplicit false
set_option maxRecDepth 100000
set_option maxHeartbeats 4000000
namespace TL
open PySem PySem.Spec PyProof.Rows L2
/-- the tuple at b is the key k -/
def NT (h : Heap) (k : NestedKey) (b : Addr) : Prop := NestedIs h k (.ref b) ∧ k.depth ≤ 8
theorem NT.ty {s : Shared} {k : NestedKey} {b : Addr} (h : NT s.heap k b) : s.TypeIs (.ref b) "tuple" := by
  obtain ⟨h, _⟩ := h
  cases h with
  | tup h1 h2 h3 h4 => exact ⟨_, h1, h2⟩
section
variable {P : Program} {w : World}
def NoCls (P : Program) (w : World) (n : Nat) (s : Shared) (v : Value) : Prop := ∀ (A : Around) (E : Value → Shared → Prop) (Q : Bool → Shared → Prop), Q false s → wpAny (model P w) A (ofAClassStatement n v) Q E s
theorem NoCls.tup {n m : Nat} {s : Shared} {a : Addr} {o : Obj} {vs : Array Value} (ho : s.heap.get? a = some o) (hc : o.cls = .type "tuple") (hd : o.data = .seq vs m) (hv : ∀ v ∈ vs.toList, NoCls P w n s v) : NoCls P w (n + 1) s (.ref a) := fun A E Q h => by
  have hT : s.TypeIs (.ref a) "tuple" := ⟨o, ho, hc⟩
  unfold ofAClassStatement
  refine wpAny_bind (wpAny_typeOf hT ?_)
  dsimp only
  have e : (("tuple" : String) == "tuple") = true := by decide
  simp only [e, if_true, Bool.not_true, Bool.false_eq_true, if_false]
  try refine wpAny_bind (wpAny_pure ?_)
  try simp only [Bool.not_true, Bool.false_eq_true, if_false]
  show wpAny _ _ (seqItems? (.ref a) >>= _) _ _ s
  refine wpAny_bind (wpAny_seqItems ho hd ?_)
  dsimp only
  refine wpAny_bind ?_
  show wpAny _ _ (forIn vs _ _) _ _ s
  rw [← Array.forIn_toList]
  refine wpAny_forIn_list _ (fun rest r s' => r.1 = none ∧ s' = s ∧ ∀ v ∈ rest, NoCls P w n s v) _ ?_ ?_ _ _ ⟨rfl, rfl, hv⟩
  · rintro v rest r s' ⟨hr, rfl, all⟩
    refine wpAny_bind (all v List.mem_cons_self _ _ _ ?_)
    simp only [Bool.false_eq_true, if_false]
    exact wpAny_pure ⟨rfl, rfl, fun u hu => all u (List.mem_cons_of_mem _ hu)⟩
  · rintro ⟨r1, r2⟩ s' ⟨hr, rfl, _⟩
    simp only at hr
    subst hr
    exact wpAny_pure h
/-- whether hash goes by value: some answer, and nothing else -/
def HashBy (P : Program) (w : World) (n : Nat) (s : Shared) (v : Value) : Prop := ∀ (A : Around) (E : Value → Shared → Prop) (Q : Bool → Shared → Prop), (∀ b, Q b s) → wpAny (model P w) A (hashByValue n v) Q E s
theorem HashBy.tup {n m : Nat} {s : Shared} {a : Addr} {o : Obj} {vs : Array Value} (ho : s.heap.get? a = some o) (hc : o.cls = .type "tuple") (hd : o.data = .seq vs m) (hv : ∀ v ∈ vs.toList, HashBy P w n s v) : HashBy P w (n + 1) s (.ref a) := fun A E Q h => by
  have hT : s.TypeIs (.ref a) "tuple" := ⟨o, ho, hc⟩
  unfold hashByValue
  refine wpAny_bind (wpAny_specialOf hT F.slot_tuple_hash.lookup ?_)
  show wpAny _ _ (seqItems? (.ref a) >>= _) _ _ s
  refine wpAny_bind (wpAny_seqItems ho hd ?_)
  refine wpAny_bind ?_
  show wpAny _ _ (forIn vs _ _) _ _ s
  rw [← Array.forIn_toList]
  refine wpAny_forIn_list _ (fun rest r s' => r.1 = none ∧ s' = s ∧ ∀ v ∈ rest, HashBy P w n s v) _ ?_ ?_ _ _ ⟨rfl, rfl, hv⟩
  · rintro v rest r s' ⟨hr, rfl, all⟩
    refine wpAny_bind (all v List.mem_cons_self _ _ _ fun b => ?_)
    cases b with
    | true =>
      simp only [Bool.not_true, Bool.false_eq_true, if_false]
      exact wpAny_pure ⟨rfl, rfl, fun u hu => all u (List.mem_cons_of_mem _ hu)⟩
    | false =>
      simp only [Bool.not_false, if_true]
      exact wpAny_pure (wpAny_pure (h false))
  · rintro ⟨r1, r2⟩ s' ⟨hr, rfl, _⟩
    simp only at hr
    subst hr
    exact wpAny_pure (h true)
variable {A : Around} {E : Value → Shared → Prop} {s : Shared}
def rowsN (w : World) (L : List (Addr × NestedKey)) : List (Int × Value) := L.map fun p => (p.2.hash w, Value.ref p.1)
def hsN (w : World) (L : List (Addr × NestedKey)) : List Int := L.map fun p => p.2.hash w
structure NSet (w : World) (h : Heap) (a : Addr) (L : List (Addr × NestedKey)) (es : Array (Int × Value)) (ep : Nat) (t : SetTable) : Prop where
  ob : ∃ o, h.get? a = some o ∧ o.ExactSet ∧ o.data = .set es ep t
  rows : es.toList = rowsN w L
  tab : TbW t (hsN w L)
  six : Mk6 t.mask
  nd : (L.map (·.2)).Nodup
  room : L.length * 5 < t.mask * 3
  few : L.length < 4900
variable {a : Addr} {L : List (Addr × NestedKey)} {es : Array (Int × Value)} {ep : Nat} {t : SetTable}
theorem NSet.size {h : Heap} (R : NSet w h a L es ep t) : es.size = L.length := by
  have q := congrArg List.length R.rows
  rw [Array.length_toList, rowsN, List.length_map] at q
  exact q
theorem hsN_len (w : World) (L : List (Addr × NestedKey)) : (hsN w L).length = L.length := by unfold hsN; rw [List.length_map]
theorem NSet.fits {h : Heap} (R : NSet w h a L es ep t) : t.fits es.size = true := by
  have q1 := R.tab.sz
  rw [hsN_len] at q1
  have q2 := R.size
  have q3 := R.room
  unfold SetTable.fits SetTable.fill
  rw [R.tab.dm, Bool.and_eq_true, beq_iff_eq, decide_eq_true_eq]
  refine ⟨by omega, ?_⟩
  show t.place.size + 0 ≤ t.mask
  omega
end
end TL
end
section
set_option Elab.async false
set_option Elab.async false
set_option linter.all false
set_option autoImplicit false
set_option maxRecDepth 100000
set_option maxHeartbeats 4000000
namespace TL
open PySem PySem.Spec PyProof.Rows L2
end TL
end
section
set_option Elab.async false
set_option Elab.async false
set_option linter.all false
set_option autoImplicit false
set_option maxRecDepth 100000
set_option maxHeartbeats 4000000
namespace TL
open PySem PySem.Spec PyProof.Rows L2
section
variable {P : Program} {w : World} {A : Around} {E : Value → Shared → Prop} {s : Shared} {a : Addr} {L : List (Addr × NestedKey)} {es : Array (Int × Value)} {ep : Nat} {t : SetTable}
theorem NSet.at {h h' : Heap} (R : NSet w h a L es ep t) (k : ∀ o, h.get? a = some o → h'.get? a = some o) : NSet w h' a L es ep t := by
  obtain ⟨o, ho, r⟩ := R.ob
  exact ⟨⟨o, k o ho, r⟩, R.rows, R.tab, R.six, R.nd, R.room, R.few⟩
def TxSet (w : World) (h : Heap) (a : Addr) (ks : List Str) : Prop :=
  ∃ o es ep t, h.get? a = some o ∧ o.ExactSet ∧ o.data = .set es ep t ∧ (∀ e ∈ es.toList, TextE w e) ∧ (∀ k, k ∈ ks ↔ k ∈ es.toList.map tkey) ∧ es.size < scanBound ∧ t.fits es.size = true ∧ es.size = ks.length
theorem TxSet.at {h h' : Heap} {ks : List Str} (R : TxSet w h a ks) (k : ∀ o, h.get? a = some o → h'.get? a = some o) : TxSet w h' a ks := by
  obtain ⟨o, es, ep, t, ho, r⟩ := R
  exact ⟨o, es, ep, t, k o ho, r⟩
theorem TxSet.of {h : Heap} {ks : List Str} (R : TxSet w h a ks) : h.SetOf (PySem.strKind P w) a (fun k => decide (k ∈ ks)) ks.length := by
  obtain ⟨o, es, ep, t, ho, hx, hd, g, m, hb, hf, hn⟩ := R
  refine ⟨o, es, ep, t, ho, hx, hd, text_elems g, fun k => ?_, hb, hf, hn⟩
  rw [decide_eq_true_eq, m, text_mem (P := P) g]
abbrev SEnt := V × NestedKey
abbrev ofTx (ks : List Str) : List SEnt := ks.map fun k => (V.str k, NestedKey.text k)
abbrev ofTp (Ls : List (Addr × NestedKey)) : List SEnt := Ls.map fun p => (V.ref p.1, p.2)
structure SXat (w : World) (h : Heap) (a : Addr) (L : List SEnt) : Prop where
  tx : ∀ ks : List Str, L = ofTx ks → TxSet w h a ks
  tp : ∀ Ls : List (Addr × NestedKey), L = ofTp Ls → ∃ L' es ep t, L'.Perm Ls ∧ NSet w h a L' es ep t
  ob : ∃ o es ep t, h.get? a = some o ∧ o.ExactSet ∧ o.data = .set es ep t
def SX (w : World) (a : Addr) (L : List SEnt) : HO := .ext fun h => SXat w h a L
theorem SXat.at {h h' : Heap} {L : List SEnt} (R : SXat w h a L) (k : ∀ o, h.get? a = some o → h'.get? a = some o) : SXat w h' a L := by
  refine ⟨fun ks e => (R.tx ks e).at k, fun Ls e => ?_, ?_⟩
  · obtain ⟨L', es, ep, t, h1, h2⟩ := R.tp Ls e
    exact ⟨L', es, ep, t, h1, h2.at k⟩
  · obtain ⟨o, es, ep, t, h1, h2⟩ := R.ob
    exact ⟨o, es, ep, t, k o h1, h2⟩
end
end TL
end
section
set_option Elab.async false
set_option Elab.async false
set_option linter.all false
set_option autoImplicit false
set_option maxRecDepth 100000
set_option maxHeartbeats 4000000
namespace PySem.SeqAt
open AutoSeq1 (wpAny_loadPart')
open MeetsSeq MeetsSeq2 MeetsSeq3 SeqRoads2
end PySem.SeqAt
namespace TL
open PySem PySem.Spec PyProof.Rows L2
end TL
end
section
set_option Elab.async false
set_option Elab.async false
set_option linter.all false
set_option autoImplicit false
set_option maxRecDepth 100000
set_option maxHeartbeats 4000000
namespace TL
open PySem PySem.Spec PyProof.Rows L2
/-- what is fixed through a law: the written part, the classes by name, the program, the world -/
structure Gm where
  K : PySem.W.Frag
  cl : Str → Addr
  w : World
abbrev Ent := NestedKey × V × V
/-- a dict by its entries -/
def DX (w : World) (a : Addr) (es : List Ent) (ep : Nat) : HO := .ext fun h => (a == sysModules) = false ∧ es.length ≤ sizeLine ∧ ∃ (o : Obj) (xs : Array DictEntry), h.get? a = some o ∧ o.ExactDict ∧ o.data = .dict xs ep ∧
  Paired (fun (e : Ent) (q : DictEntry) => q.hash = e.1.hash w ∧ L2.RelV e.2.1 q.key ∧ L2.RelV e.2.2 q.val) es xs.toList
mutual
/-- the tree as a key -/
def keyOf : T → Option NestedKey
  | .non => some .none
  | .bl b => some (.num (if b = true then 1 else 0))
  | .int i => some (.num i)
  | .str x => some (.text x)
  | .tup xs => (keysOf xs).map .tup
  | .lst _ => none
  | .dct _ => none
  | .set _ => none
  | .ins _ _ => none
def keysOf : List T → Option (List NestedKey)
  | [] => some []
  | x :: xs => match keyOf x, keysOf xs with
    | some k, some ks => some (k :: ks)
    | _, _ => none
end
mutual
/-- the tree at the value v: lists, tuples, dicts in B, instances in F -/
def Rep (Γ : Gm) (F : Hp) : Hp → T → V → Prop
  | _, .non, v => v = .non
  | _, .bl b, v => v = .bl b
  | _, .int i, v => v = .int i
  | _, .str x, v => v = .str x
  | B, .tup xs, v => ∃ a vs, v = .ref a ∧ SqT Γ.K B a vs ∧ RepL Γ F B xs vs
  | B, .lst xs, v => ∃ a vs, v = .ref a ∧ SqL Γ.K B a vs ∧ RepL Γ F B xs vs
  | B, .dct kvs, v => ∃ a es ep, v = .ref a ∧ B a = some (DX Γ.w a es ep) ∧ (es.map (·.1)).Nodup ∧ RepD Γ F B kvs es
  | B, .set xs, v => ∃ a L, v = .ref a ∧ B a = some (SX Γ.w a L) ∧ keysOf xs = some (L.map (·.2)) ∧ RepL Γ F B xs (L.map (·.1))
  | _, .ins c fs, v => ∃ a dx fv, v = .ref a ∧ F a = some (.ins (Γ.cl c) dx fv) ∧ F dx = some (.own a) ∧ RepF Γ F F fs fv
def RepL (Γ : Gm) (F : Hp) : Hp → List T → List V → Prop
  | _, [], vs => vs = []
  | B, x :: xs, vs => ∃ v r, vs = v :: r ∧ Rep Γ F B x v ∧ RepL Γ F B xs r
def RepD (Γ : Gm) (F : Hp) : Hp → List (T × T) → List Ent → Prop
  | _, [], es => es = []
  | B, (k, x) :: kvs, es => ∃ nk kv v r, es = (nk, kv, v) :: r ∧ keyOf k = some nk ∧ Rep Γ F B k kv ∧ Rep Γ F B x v ∧ RepD Γ F B kvs r
def RepF (Γ : Gm) (F : Hp) : Hp → List (Str × T) → List (Str × V) → Prop
  | _, [], vs => vs = []
  | B, (f, x) :: fs, vs => ∃ v r, vs = (f, v) :: r ∧ Rep Γ F B x v ∧ RepF Γ F B fs r
end
theorem rd_sub {H H' : Hp} {a : Addr} {u : HO} (e : Same H H') (h : Rd H a u) : Rd H' a u := h.imp (e _ _) fun ⟨o, h⟩ => ⟨o, e _ _ h⟩
theorem sqT_sub {K : PySem.W.Frag} {H H' : Hp} {a : Addr} {xs : List V} (e : Same H H') (h : SqT K H a xs) : SqT K H' a xs := h.imp (rd_sub e) id
theorem sqL_sub {K : PySem.W.Frag} {H H' : Hp} {a : Addr} {xs : List V} (e : Same H H') (h : SqL K H a xs) : SqL K H' a xs := h.imp (rd_sub e) id
mutual
theorem Rep.mono {Γ : Gm} {F F' : Hp} (hF : Same F F') : ∀ (t : T) {B B' : Hp} {v : V}, Same B B' → Rep Γ F B t v → Rep Γ F' B' t v
  | .non, _, _, _, _, h => h
  | .bl _, _, _, _, _, h => h
  | .int _, _, _, _, _, h => h
  | .str _, _, _, _, _, h => h
  | .tup xs, _, _, _, hB, h => by
    obtain ⟨a, vs, e, h1, h2⟩ := h
    exact ⟨a, vs, e, sqT_sub hB h1, RepL.mono hF xs hB h2⟩
  | .lst xs, _, _, _, hB, h => by
    obtain ⟨a, vs, e, h1, h2⟩ := h
    exact ⟨a, vs, e, sqL_sub hB h1, RepL.mono hF xs hB h2⟩
  | .dct kvs, _, _, _, hB, h => by
    obtain ⟨a, es, ep, e, h1, h2, h3⟩ := h
    exact ⟨a, es, ep, e, hB _ _ h1, h2, RepD.mono hF kvs hB h3⟩
  | .set xs, _, _, _, hB, h => by
    obtain ⟨a, L, e, h1, h2, h3⟩ := h
    exact ⟨a, L, e, hB _ _ h1, h2, RepL.mono hF xs hB h3⟩
  | .ins c fs, _, _, _, hB, h => by
    obtain ⟨a, dx, fv, e, h1, h2, h3⟩ := h
    exact ⟨a, dx, fv, e, hF _ _ h1, hF _ _ h2, RepF.mono hF fs hF h3⟩
theorem RepL.mono {Γ : Gm} {F F' : Hp} (hF : Same F F') : ∀ (ts : List T) {B B' : Hp} {vs : List V}, Same B B' → RepL Γ F B ts vs → RepL Γ F' B' ts vs
  | [], _, _, _, _, h => h
  | x :: xs, _, _, _, hB, h => by
    obtain ⟨v, r, e, h1, h2⟩ := h
    exact ⟨v, r, e, Rep.mono hF x hB h1, RepL.mono hF xs hB h2⟩
theorem RepD.mono {Γ : Gm} {F F' : Hp} (hF : Same F F') : ∀ (ts : List (T × T)) {B B' : Hp} {es : List Ent}, Same B B' → RepD Γ F B ts es → RepD Γ F' B' ts es
  | [], _, _, _, _, h => h
  | (k, x) :: xs, _, _, _, hB, h => by
    obtain ⟨nk, kv, v, r, e, h0, h1, h2, h3⟩ := h
    exact ⟨nk, kv, v, r, e, h0, Rep.mono hF k hB h1, Rep.mono hF x hB h2, RepD.mono hF xs hB h3⟩
theorem RepF.mono {Γ : Gm} {F F' : Hp} (hF : Same F F') : ∀ (ts : List (Str × T)) {B B' : Hp} {vs : List (Str × V)}, Same B B' → RepF Γ F B ts vs → RepF Γ F' B' ts vs
  | [], _, _, _, _, h => h
  | (f, x) :: xs, _, _, _, hB, h => by
    obtain ⟨v, r, e, h1, h2⟩ := h
    exact ⟨v, r, e, Rep.mono hF x hB h1, RepF.mono hF xs hB h2⟩
end
mutual
def RepO (Γ : Gm) (F H : Hp) : Nat → T → V → List Addr → Prop
  | 0, t, v, fp => fp = [] ∧ Rep Γ F F t v
  | n + 1, .tup xs, v, fp => ∃ a vs, v = .ref a ∧ SqT Γ.K H a vs ∧ RepOL Γ F H (n + 1) xs vs fp
  | n + 1, .lst xs, v, fp => ∃ a vs fp', v = .ref a ∧ H a = some (.lst vs) ∧ fp = a :: fp' ∧ RepOL Γ F H n xs vs fp'
  | _ + 1, .dct kvs, v, fp => ∃ a es ep, v = .ref a ∧ H a = some (DX Γ.w a es ep) ∧ (es.map (·.1)).Nodup ∧ fp = [a] ∧ RepD Γ F F kvs es
  | _ + 1, .non, v, fp => fp = [] ∧ v = .non
  | _ + 1, .bl b, v, fp => fp = [] ∧ v = .bl b
  | _ + 1, .int i, v, fp => fp = [] ∧ v = .int i
  | _ + 1, .str x, v, fp => fp = [] ∧ v = .str x
  | _ + 1, .set xs, v, fp => ∃ a L, v = .ref a ∧ H a = some (SX Γ.w a L) ∧ fp = [a] ∧ keysOf xs = some (L.map (·.2)) ∧ RepL Γ F F xs (L.map (·.1))
  | _ + 1, .ins c fs, v, fp => fp = [] ∧ Rep Γ F F (.ins c fs) v
def RepOL (Γ : Gm) (F H : Hp) : Nat → List T → List V → List Addr → Prop
  | _, [], vs, fp => vs = [] ∧ fp = []
  | n, x :: xs, vs, fp => ∃ v r p q, vs = v :: r ∧ fp = p ++ q ∧ RepO Γ F H n x v p ∧ RepOL Γ F H n xs r q
end
end TL
end
section
set_option Elab.async false
set_option Elab.async false
set_option linter.all false
set_option autoImplicit false
set_option maxRecDepth 100000
set_option maxHeartbeats 4000000
namespace TL
open PySem PySem.Spec PyProof.Rows L2
theorem RepO_zero {Γ : Gm} {F H : Hp} {t : T} {v : V} {fp : List Addr} : RepO Γ F H 0 t v fp = (fp = [] ∧ Rep Γ F F t v) := by
  cases t <;> rfl
theorem rd_fix {H H' : Hp} {a : Addr} {vs : List V} (ht : ∀ a o, H a = some o → ¬ Mut (some o) → H' a = some o) (h : Rd H a (.tup vs)) : Rd H' a (.tup vs) :=
  h.imp (fun e => ht _ _ e fun z => z) fun ⟨o, e⟩ => ⟨o, ht _ _ e fun z => z⟩
theorem sqT_fix {K : PySem.W.Frag} {H H' : Hp} {a : Addr} {vs : List V} (ht : ∀ a o, H a = some o → ¬ Mut (some o) → H' a = some o) (h : SqT K H a vs) : SqT K H' a vs := h.imp (rd_fix ht) id
mutual
theorem RepO.keep {Γ : Gm} {F F' H H' : Hp} (hF : Same F F') (ht : ∀ a o, H a = some o → ¬ Mut (some o) → H' a = some o) : ∀ (t : T) {n : Nat} {v : V} {fp : List Addr}, (∀ a ∈ fp, ∀ o, H a = some o → H' a = some o) → RepO Γ F H n t v fp → RepO Γ F' H' n t v fp
  | t, 0, _, _, _, h => by
    rw [RepO_zero] at h ⊢
    exact ⟨h.1, Rep.mono hF t hF h.2⟩
  | .tup xs, n + 1, _, _, hp, h => by
    obtain ⟨a, vs, e, h1, h2⟩ := h
    exact ⟨a, vs, e, sqT_fix ht h1, RepOL.keep hF ht xs hp h2⟩
  | .lst xs, n + 1, _, _, hp, h => by
    obtain ⟨a, vs, fp', e, h1, rfl, h2⟩ := h
    exact ⟨a, vs, fp', e, hp a (by simp) _ h1, rfl, RepOL.keep hF ht xs (fun b hb => hp b (by simp [hb])) h2⟩
  | .dct kvs, n + 1, _, _, hp, h => by
    obtain ⟨a, es, ep, e, h1, h2, rfl, h3⟩ := h
    exact ⟨a, es, ep, e, hp a (by simp) _ h1, h2, rfl, RepD.mono hF kvs hF h3⟩
  | .non, n + 1, _, _, _, h => h
  | .bl _, n + 1, _, _, _, h => h
  | .int _, n + 1, _, _, _, h => h
  | .str _, n + 1, _, _, _, h => h
  | .set xs, n + 1, _, _, hp, h => by
    obtain ⟨a, L, e, h1, rfl, h2, h3⟩ := h
    exact ⟨a, L, e, hp a (by simp) _ h1, rfl, h2, RepL.mono hF xs hF h3⟩
  | .ins _ _, n + 1, _, _, _, h => ⟨h.1, Rep.mono hF _ hF h.2⟩
theorem RepOL.keep {Γ : Gm} {F F' H H' : Hp} (hF : Same F F') (ht : ∀ a o, H a = some o → ¬ Mut (some o) → H' a = some o) : ∀ (ts : List T) {n : Nat} {vs : List V} {fp : List Addr}, (∀ a ∈ fp, ∀ o, H a = some o → H' a = some o) → RepOL Γ F H n ts vs fp → RepOL Γ F' H' n ts vs fp
  | [], _, _, _, _, h => h
  | x :: xs, n, _, _, hp, h => by
    obtain ⟨v, r, p, q, e, rfl, h1, h2⟩ := h
    exact ⟨v, r, p, q, e, rfl, RepO.keep hF ht x (fun b hb => hp b (by simp [hb])) h1, RepOL.keep hF ht xs (fun b hb => hp b (by simp [hb])) h2⟩
end
mutual
/-- what is owned, seen in a heap G that has it -/
theorem RepO.rep {Γ : Gm} {F H F' G : Hp} (hF : Same F F') (hG : Same F G) (ht : ∀ a o, H a = some o → ¬ Mut (some o) → G a = some o) : ∀ (t : T) {n : Nat} {v : V} {fp : List Addr}, (∀ a ∈ fp, ∀ o, H a = some o → G a = some o) → RepO Γ F H n t v fp → Rep Γ F' G t v
  | t, 0, _, _, _, h => by
    rw [RepO_zero] at h
    exact Rep.mono hF t hG h.2
  | .tup xs, n + 1, _, _, hp, h => by
    obtain ⟨a, vs, e, h1, h2⟩ := h
    exact ⟨a, vs, e, sqT_fix ht h1, RepOL.rep hF hG ht xs hp h2⟩
  | .lst xs, n + 1, _, _, hp, h => by
    obtain ⟨a, vs, fp', e, h1, rfl, h2⟩ := h
    exact ⟨a, vs, e, .inl (.inl (hp a (by simp) _ h1)), RepOL.rep hF hG ht xs (fun b hb => hp b (by simp [hb])) h2⟩
  | .dct kvs, n + 1, _, _, hp, h => by
    obtain ⟨a, es, ep, e, h1, h2, rfl, h3⟩ := h
    exact ⟨a, es, ep, e, hp a (by simp) _ h1, h2, RepD.mono hF kvs hG h3⟩
  | .non, n + 1, _, _, _, h => h.2
  | .bl _, n + 1, _, _, _, h => h.2
  | .int _, n + 1, _, _, _, h => h.2
  | .str _, n + 1, _, _, _, h => h.2
  | .set xs, n + 1, _, _, hp, h => by
    obtain ⟨a, L, e, h1, rfl, h2, h3⟩ := h
    exact ⟨a, L, e, hp a (by simp) _ h1, h2, RepL.mono hF xs hG h3⟩
  | .ins _ _, n + 1, _, _, _, h => Rep.mono hF _ hG h.2
theorem RepOL.rep {Γ : Gm} {F H F' G : Hp} (hF : Same F F') (hG : Same F G) (ht : ∀ a o, H a = some o → ¬ Mut (some o) → G a = some o) : ∀ (ts : List T) {n : Nat} {vs : List V} {fp : List Addr}, (∀ a ∈ fp, ∀ o, H a = some o → G a = some o) → RepOL Γ F H n ts vs fp → RepL Γ F' G ts vs
  | [], _, _, _, _, h => h.1
  | x :: xs, n, _, _, hp, h => by
    obtain ⟨v, r, p, q, e, rfl, h1, h2⟩ := h
    exact ⟨v, r, e, RepO.rep hF hG ht x (fun b hb => hp b (by simp [hb])) h1, RepOL.rep hF hG ht xs (fun b hb => hp b (by simp [hb])) h2⟩
end
theorem RepO.now {Γ : Gm} {F H : Hp} {t : T} {n : Nat} {v : V} {fp : List Addr} (hF : Same F H) (h : RepO Γ F H n t v fp) : Rep Γ F H t v :=
  RepO.rep (Same.refl _) hF (fun _ _ e _ => e) t (fun _ _ _ e => e) h
mutual
/-- what stands at the places of an owned tree can be written -/
theorem RepO.mut {Γ : Gm} {F H : Hp} : ∀ (t : T) {n : Nat} {v : V} {fp : List Addr}, RepO Γ F H n t v fp → ∀ a ∈ fp, Mut (H a)
  | t, 0, _, _, h, a, ha => by rw [RepO_zero] at h; rw [h.1] at ha; cases ha
  | .tup xs, n + 1, _, _, h, a, ha => by
    obtain ⟨b, vs, e, h1, h2⟩ := h
    exact RepOL.mut xs h2 a ha
  | .lst xs, n + 1, _, _, h, a, ha => by
    obtain ⟨b, vs, fp', e, h1, rfl, h2⟩ := h
    rcases List.mem_cons.mp ha with rfl | ha
    · rw [h1]; exact True.intro
    · exact RepOL.mut xs h2 a ha
  | .dct kvs, n + 1, _, _, h, a, ha => by
    obtain ⟨b, es, ep, e, h1, h2, rfl, h3⟩ := h
    rw [List.mem_singleton.mp ha, h1]; exact True.intro
  | .non, n + 1, _, _, h, a, ha => by rw [h.1] at ha; cases ha
  | .bl _, n + 1, _, _, h, a, ha => by rw [h.1] at ha; cases ha
  | .int _, n + 1, _, _, h, a, ha => by rw [h.1] at ha; cases ha
  | .str _, n + 1, _, _, h, a, ha => by rw [h.1] at ha; cases ha
  | .set xs, n + 1, _, _, h, a, ha => by
    obtain ⟨b, L, e, h1, rfl, h2, h3⟩ := h
    rw [List.mem_singleton.mp ha, h1]; exact True.intro
  | .ins _ _, n + 1, _, _, h, a, ha => by rw [h.1] at ha; cases ha
theorem RepOL.mut {Γ : Gm} {F H : Hp} : ∀ (ts : List T) {n : Nat} {vs : List V} {fp : List Addr}, RepOL Γ F H n ts vs fp → ∀ a ∈ fp, Mut (H a)
  | [], _, _, _, h, a, ha => by rw [h.2] at ha; cases ha
  | x :: xs, n, _, _, h, a, ha => by
    obtain ⟨v, r, p, q, e, rfl, h1, h2⟩ := h
    rcases List.mem_append.mp ha with ha | ha
    · exact RepO.mut x h1 a ha
    · exact RepOL.mut xs h2 a ha
end
theorem RepO.there {Γ : Gm} {F H : Hp} {t : T} {n : Nat} {v : V} {fp : List Addr} (h : RepO Γ F H n t v fp) {a : Addr} (ha : a ∈ fp) : ∃ o, H a = some o ∧ Mut (some o) := by
  have m := RepO.mut t h a ha
  cases e : H a with
  | none => rw [e] at m; exact m.elim
  | some o => rw [e] at m; exact ⟨o, rfl, m⟩
structure Wd where
  F : Hp
  B : Hp
  H : Hp
structure Wd.Le (W W' : Wd) : Prop where
  f : Same W.F W'.F
  b : Same W.B W'.B
  g : ∀ a o, W'.F a = some o → W.F a = some o ∨ W.B a = none ∨ ¬ Mut (some o)
theorem Wd.Le.refl (W : Wd) : W.Le W := ⟨Same.refl _, Same.refl _, fun _ _ h => .inl h⟩
theorem Wd.Le.trans {W W1 W2 : Wd} (a : W.Le W1) (b : W1.Le W2) : W.Le W2 := by
  refine ⟨a.f.trans b.f, a.b.trans b.b, fun c o h => ?_⟩
  rcases b.g c o h with h | h | h
  · exact a.g c o h
  · exact .inr (.inl (a.b.free h))
  · exact .inr (.inr h)
/-- how a slot is held -/
inductive Md where
  | sh | own (n : Nat) | lent (n : Nat) | obj | ex (a : Addr) (d : Option Addr)
  deriving DecidableEq
/-- stays where it is while its def runs -/
def Md.kept : Md → Bool
  | .lent _ => true
  | .obj => true
  | .ex _ _ => true
  | _ => false
/-- an instance of one's own, what it holds is frozen -/
def RepI (Γ : Gm) (F H : Hp) : T → V → List Addr → Prop
  | .ins c fs, v, fp => ∃ a dx fv, v = .ref a ∧ H a = some (.ins (Γ.cl c) dx fv) ∧ H dx = some (.own a) ∧ fp = [a] ∧ RepF Γ F F fs fv
  | _, _, _ => False
/-- a caught exception: at a, its fields at d -/
def RepE (Γ : Gm) (F : Hp) (a : Addr) (d : Option Addr) : T → V → Prop
  | .ins _ fs, v => v = .ref a ∧ ((fs = [] ∧ d = none) ∨ ∃ dd fv, d = some dd ∧ F dd = some (.xd fv) ∧ RepF Γ F F fs fv)
  | _, _ => False
abbrev Slot := Md × Option T × Option V
def SlotOk (Γ : Gm) (W : Wd) : Slot → List Addr → Prop
  | (_, none, _), fp => fp = []
  | (_, some _, none), _ => False
  | (.sh, some t, some v), fp => fp = [] ∧ Rep Γ W.F W.B t v
  | (.own n, some t, some v), fp => RepO Γ W.F W.H n t v fp
  | (.lent n, some t, some v), fp => RepO Γ W.F W.H n t v fp
  | (.obj, some t, some v), fp => RepI Γ W.F W.H t v fp
  | (.ex a d, some t, some v), fp => fp = [] ∧ RepE Γ W.F a d t v
theorem RepI.keep {Γ : Gm} {F F' H H' : Hp} (hF : Same F F') (ht : ∀ a o, H a = some o → ¬ Mut (some o) → H' a = some o) {t : T} {v : V} {fp : List Addr} (hp : ∀ a ∈ fp, ∀ o, H a = some o → H' a = some o) (h : RepI Γ F H t v fp) : RepI Γ F' H' t v fp := by
  cases t with
  | ins c fs =>
    obtain ⟨a, dx, fv, e, h1, h2, rfl, h3⟩ := h
    exact ⟨a, dx, fv, e, hp a (by simp) _ h1, ht _ _ h2 (fun z => z), rfl, RepF.mono hF fs hF h3⟩
  | _ => exact (show False from h).elim
theorem RepE.keep {Γ : Gm} {F F' : Hp} (hF : Same F F') {a : Addr} {d : Option Addr} {t : T} {v : V} (h : RepE Γ F a d t v) : RepE Γ F' a d t v := by
  cases t with
  | ins c fs =>
    obtain ⟨e, h⟩ := h
    refine ⟨e, ?_⟩
    rcases h with h | ⟨dd, fv, e1, e2, e3⟩
    · exact .inl h
    · exact .inr ⟨dd, fv, e1, hF _ _ e2, RepF.mono hF fs hF e3⟩
  | _ => exact (show False from h).elim
theorem RepI.there {Γ : Gm} {F H : Hp} {t : T} {v : V} {fp : List Addr} (h : RepI Γ F H t v fp) {a : Addr} (ha : a ∈ fp) : ∃ o, H a = some o ∧ Mut (some o) := by
  cases t with
  | ins c fs =>
    obtain ⟨b, dx, fv, e, h1, h2, rfl, h3⟩ := h
    rw [List.mem_singleton.mp ha]
    exact ⟨_, h1, True.intro⟩
  | _ => exact (show False from h).elim
structure Fr (Γ : Gm) (W : Wd) (S : List Slot) : Prop where
  fb : Same W.F W.B
  bh : Same W.B W.H
  ex : ∃ fps : List (List Addr), Paired (SlotOk Γ W) S fps ∧ fps.flatten.Nodup ∧ ∀ a ∈ fps.flatten, W.B a = none
end TL
end
section
set_option Elab.async false
set_option Elab.async false
set_option linter.all false
set_option autoImplicit false
set_option maxRecDepth 100000
set_option maxHeartbeats 4000000
namespace TL
open PySem PySem.Spec PyProof.Rows L2
section
variable {α β : Type} {R R' : α → β → Prop}
theorem pr_get : ∀ {l : List α} {m : List β} {i : Nat} {a : α}, Paired R l m → l[i]? = some a → ∃ b, m[i]? = some b ∧ R a b
  | _, _, _, _, .nil, e => by simp at e
  | _, _, 0, _, .cons r _, e => by simp at e; subst e; exact ⟨_, rfl, r⟩
  | _, _, i + 1, a, .cons _ t, e => by
    obtain ⟨u, h1, h2⟩ := pr_get (i := i) (a := a) t (by simpa using e)
    exact ⟨u, by simpa using h1, h2⟩
theorem pr_app : ∀ {l l' : List α} {m m' : List β}, Paired R l m → Paired R l' m' → Paired R (l ++ l') (m ++ m')
  | _, _, _, _, .nil, s => s
  | _, _, _, _, .cons r t, s => .cons r (pr_app t s)
theorem pr_split : ∀ {l l' : List α} {m : List β}, Paired R (l ++ l') m → ∃ m1 m2, m = m1 ++ m2 ∧ Paired R l m1 ∧ Paired R l' m2
  | [], _, _, h => ⟨[], _, rfl, .nil, h⟩
  | _ :: _, _, _, .cons r t => by
    obtain ⟨m1, m2, e, h1, h2⟩ := pr_split t
    exact ⟨_ :: m1, m2, by rw [e]; rfl, .cons r h1, h2⟩
end
section
variable {Γ : Gm} {W : Wd} {S : List Slot}
/-- a slot that may be another's in the heap that is kept for it -/
theorem SlotOk.keep {W W' : Wd} (hF : Same W.F W'.F) (hB : Same W.B W'.B) (ht : ∀ a o, W.H a = some o → ¬ Mut (some o) → W'.H a = some o) : ∀ {s : Slot} {fp : List Addr}, (∀ a ∈ fp, ∀ o, W.H a = some o → W'.H a = some o) → SlotOk Γ W s fp → SlotOk Γ W' s fp
  | (_, none, _), _, _, h => h
  | (_, some _, none), _, _, h => h.elim
  | (.sh, some t, some v), _, _, h => ⟨h.1, Rep.mono hF t hB h.2⟩
  | (.own n, some t, some v), _, hp, h => RepO.keep hF ht t hp h
  | (.lent n, some t, some v), _, hp, h => RepO.keep hF ht t hp h
  | (.obj, some t, some v), _, hp, h => RepI.keep hF ht hp h
  | (.ex a d, some t, some v), _, _, h => ⟨h.1, h.2.keep hF⟩
theorem SlotOk.there : ∀ {s : Slot} {fp : List Addr}, SlotOk Γ W s fp → ∀ a ∈ fp, ∃ o, W.H a = some o ∧ Mut (some o)
  | (_, none, _), _, h, a, ha => by rw [show _ = [] from h] at ha; cases ha
  | (_, some _, none), _, h, _, _ => h.elim
  | (.sh, some t, some v), _, h, a, ha => by rw [h.1] at ha; cases ha
  | (.own n, some t, some v), _, h, a, ha => RepO.there h ha
  | (.lent n, some t, some v), _, h, a, ha => RepO.there h ha
  | (.obj, some t, some v), _, h, a, ha => RepI.there h ha
  | (.ex _ _, some t, some v), _, h, a, ha => by rw [h.1] at ha; cases ha
theorem pr_there {fps : List (List Addr)} (h : Paired (SlotOk Γ W) S fps) : ∀ a ∈ fps.flatten, ∃ o, W.H a = some o ∧ Mut (some o) := by
  induction h with
  | nil => intro a ha; simp at ha
  | cons r t ih =>
    intro a ha
    rw [List.flatten_cons] at ha
    rcases List.mem_append.mp ha with ha | ha
    · exact r.there a ha
    · exact ih a ha
theorem pr_keep {W W' : Wd} (hF : Same W.F W'.F) (hB : Same W.B W'.B) (ht : ∀ a o, W.H a = some o → ¬ Mut (some o) → W'.H a = some o) {S : List Slot} {fps : List (List Addr)} (h : Paired (SlotOk Γ W) S fps) (hp : ∀ a ∈ fps.flatten, ∀ o, W.H a = some o → W'.H a = some o) : Paired (SlotOk Γ W') S fps := by
  induction h with
  | nil => exact .nil
  | cons r t ih =>
    refine .cons (SlotOk.keep hF hB ht (fun a ha => hp a ?_) r) (ih fun a ha => hp a ?_)
    · rw [List.flatten_cons]; exact List.mem_append_left _ ha
    · rw [List.flatten_cons]; exact List.mem_append_right _ ha
theorem flat_set {l : List (List Addr)} {i : Nat} {x y : List Addr} (h : l[i]? = some x) : ∃ p q, l.flatten = p ++ x ++ q ∧ (l.set i y).flatten = p ++ y ++ q := by
  induction l generalizing i with
  | nil => simp at h
  | cons a l ih =>
    cases i with
    | zero =>
      simp at h
      subst h
      exact ⟨[], l.flatten, by simp, by simp⟩
    | succ i =>
      obtain ⟨p, q, e1, e2⟩ := ih (i := i) (by simpa using h)
      exact ⟨a ++ p, q, by simp [e1], by simp [e2]⟩
theorem nodup_mid {p x y q : List Addr} (h : (p ++ x ++ q).Nodup) (hy : y.Nodup) (hd : ∀ a ∈ y, a ∉ p ∧ a ∉ q) : (p ++ y ++ q).Nodup := by
  rw [List.append_assoc, List.nodup_append] at h ⊢
  obtain ⟨hp, hxq, hd1⟩ := h
  rw [List.nodup_append] at hxq ⊢
  obtain ⟨hx, hq, hd2⟩ := hxq
  refine ⟨hp, ⟨hy, hq, fun a ha b hb e => (hd a ha).2 (e ▸ hb)⟩, fun a ha b hb e => ?_⟩
  rcases List.mem_append.mp hb with hb | hb
  · exact (hd b hb).1 (e ▸ ha)
  · exact hd1 a ha b (List.mem_append_right _ hb) e
/-- slot i is changed, and with it the heap at its own places alone; what is new is its own -/
theorem Fr.change (h : Fr Γ W S) {i : Nat} {s : Slot} (hs : S[i]? = some s) : ∃ fp, SlotOk Γ W s fp ∧ fp.Nodup ∧ (∀ a ∈ fp, W.B a = none) ∧ ∀ (H' : Hp) (s' : Slot) (fp' : List Addr), (∀ a o, a ∉ fp → W.H a = some o → H' a = some o) → SlotOk Γ { W with H := H' } s' fp' → fp'.Nodup → (∀ a ∈ fp', a ∈ fp ∨ W.H a = none) →
    Fr Γ { W with H := H' } (S.set i s') := by
  obtain ⟨fps, h1, h2, h3⟩ := h.ex
  obtain ⟨fp, e, hsl⟩ := pr_get h1 hs
  obtain ⟨p, q, e1, _⟩ := flat_set (y := []) e
  have hnd : fp.Nodup := by
    rw [e1] at h2
    exact (List.nodup_append.mp (List.nodup_append.mp h2).1).2.1
  have hin : ∀ a ∈ fp, W.B a = none := fun a ha => h3 a (by rw [e1]; simp [ha])
  refine ⟨fp, hsl, hnd, hin, fun H' s' fp' hk hok hn' hf => ?_⟩
  have ht : ∀ a o, W.H a = some o → ¬ Mut (some o) → H' a = some o := fun a o q nm => hk a _ (fun hm => by
    obtain ⟨o, e, m⟩ := hsl.there a hm
    rw [q] at e; cases e; exact nm m) q
  obtain ⟨p, q, e1, e2⟩ := flat_set (y := fp') e
  have dis : ∀ a, a ∈ fp → a ∉ p ∧ a ∉ q := fun a ha => by
    rw [e1, List.append_assoc, List.nodup_append] at h2
    obtain ⟨_, hxq, hd1⟩ := h2
    rw [List.nodup_append] at hxq
    exact ⟨fun hp => hd1 a hp a (List.mem_append_left _ ha) rfl, fun hq => hxq.2.2 a ha a hq rfl⟩
  have oth : ∀ a, a ∈ p ∨ a ∈ q → a ∉ fp := fun a ha hf => ha.elim (dis a hf).1 (dis a hf).2
  have all : ∀ a, a ∈ p ∨ a ∈ q → a ∈ fps.flatten := fun a ha => by
    rw [e1]; rcases ha with ha | ha <;> simp [ha]
  refine ⟨h.fb, fun a o q => hk a o (fun hm => ?_) (h.bh _ _ q), fps.set i fp', ?_, ?_, ?_⟩
  · have q' : W.B a = some o := q
    rw [hin a hm] at q'; cases q'
  · -- the other slots
    have go : ∀ {S : List Slot} {fps : List (List Addr)} {i : Nat} {x : List Addr}, Paired (SlotOk Γ W) S fps → fps[i]? = some x → (∀ a, a ∈ (fps.set i []).flatten → a ∉ fp) → Paired (SlotOk Γ { W with H := H' }) (S.set i s') (fps.set i fp') := by
      intro S fps i x hpr
      induction hpr generalizing i with
      | nil => intro hx _; simp at hx
      | cons r t ih =>
        intro hx hout
        cases i with
        | zero =>
          refine .cons hok (pr_keep (W := W) (W' := { W with H := H' }) (Same.refl _) (Same.refl _) ht t fun a ha o q => hk a o (hout a ?_) q)
          simpa using ha
        | succ i =>
          refine .cons (SlotOk.keep (W := W) (W' := { W with H := H' }) (Same.refl _) (Same.refl _) ht (fun a ha o q => hk a o (hout a ?_) q) r) (ih (by simpa using hx) fun a ha => hout a ?_)
          · simp only [List.set_cons_succ, List.flatten_cons]; exact List.mem_append_left _ ha
          · simp only [List.set_cons_succ, List.flatten_cons]; exact List.mem_append_right _ ha
    refine go h1 e fun a ha => ?_
    obtain ⟨p', q', e1', e2'⟩ := flat_set (y := []) e
    rw [e2'] at ha
    intro hf
    rw [e1', List.append_assoc, List.nodup_append] at h2
    obtain ⟨_, hxq, hd1⟩ := h2
    rw [List.nodup_append] at hxq
    simp only [List.append_nil] at ha
    rcases List.mem_append.mp ha with ha | ha
    · exact hd1 a ha a (List.mem_append_left _ hf) rfl
    · exact hxq.2.2 a hf a ha rfl
  · rw [e2]
    refine nodup_mid (by rw [← e1]; exact h2) hn' fun a ha => ?_
    rcases hf a ha with hm | hm
    · exact dis a hm
    · have no : ∀ b, b ∈ p ∨ b ∈ q → b ≠ a := fun b hb e => by
        obtain ⟨o, e', _⟩ := pr_there h1 b (all b hb)
        rw [e, hm] at e'; cases e'
      exact ⟨fun hp => no a (.inl hp) rfl, fun hq => no a (.inr hq) rfl⟩
  · intro a ha
    rw [e2] at ha
    have : a ∈ p ∨ a ∈ q ∨ a ∈ fp' := by
      rcases List.mem_append.mp ha with ha | ha
      · rcases List.mem_append.mp ha with ha | ha
        · exact .inl ha
        · exact .inr (.inr ha)
      · exact .inr (.inl ha)
    rcases this with ha | ha | ha
    · exact h3 a (all a (.inl ha))
    · exact h3 a (all a (.inr ha))
    · rcases hf a ha with hm | hm
      · exact hin a hm
      · exact h.bh.free hm
end
end TL
end
section
set_option Elab.async false
set_option Elab.async false
set_option linter.all false
set_option autoImplicit false
set_option maxRecDepth 100000
set_option maxHeartbeats 4000000
namespace TL
open PySem PySem.Spec PyProof.Rows L2
section
variable {Γ : Gm} {W : Wd} {S S' : List Slot}
theorem Fr.new (h : Fr Γ W S) {H' : Hp} {s : Slot} {fp : List Addr} (e : Same W.H H') (hs : SlotOk Γ { W with H := H' } s fp) (hn : fp.Nodup) (hf : ∀ a ∈ fp, W.H a = none) : Fr Γ { W with H := H' } (S ++ [s]) := by
  obtain ⟨fps, h1, h2, h3⟩ := h.ex
  have h1' := pr_keep (W := W) (W' := { W with H := H' }) (Same.refl _) (Same.refl _) (fun a o q _ => e _ _ q) h1 (fun a _ o q => e _ _ q)
  refine ⟨h.fb, h.bh.trans e, fps ++ [fp], pr_app h1' (.cons hs .nil), ?_, ?_⟩
  · rw [List.flatten_append, List.nodup_append]
    refine ⟨h2, by simpa using hn, fun a ha b hb z => ?_⟩
    simp at hb
    obtain ⟨o, q, _⟩ := pr_there h1 a ha
    rw [z, hf b hb] at q; cases q
  · intro a ha
    rw [List.flatten_append] at ha
    rcases List.mem_append.mp ha with ha | ha
    · exact h3 a ha
    · simp at ha
      exact h.bh.free (hf a ha)
theorem Fr.pop (h : Fr Γ W (S ++ S')) : Fr Γ W S := by
  obtain ⟨fps, h1, h2, h3⟩ := h.ex
  obtain ⟨m1, m2, rfl, g1, g2⟩ := pr_split h1
  rw [List.flatten_append] at h2 h3
  exact ⟨h.fb, h.bh, m1, g1, (List.nodup_append.mp h2).1, fun a ha => h3 a (List.mem_append_left _ ha)⟩
theorem pr_perm {α β : Type} {R : α → β → Prop} {l l' : List α} (p : l.Perm l') : ∀ {m : List β}, Paired R l m → ∃ m', Paired R l' m' ∧ m.Perm m' := by
  induction p with
  | nil => intro m h; exact ⟨m, h, .refl _⟩
  | cons x p ih =>
    intro m h
    cases h with
    | cons r t =>
      obtain ⟨m', h', q⟩ := ih t
      exact ⟨_ :: m', .cons r h', q.cons _⟩
  | swap x y l =>
    intro m h
    cases h with
    | cons r t =>
      cases t with
      | cons r' t' => exact ⟨_, .cons r' (.cons r t'), .swap _ _ _⟩
  | trans p q ih1 ih2 =>
    intro m h
    obtain ⟨m1, h1, q1⟩ := ih1 h
    obtain ⟨m2, h2, q2⟩ := ih2 h1
    exact ⟨m2, h2, q1.trans q2⟩
theorem Fr.perm (h : Fr Γ W S) (p : S.Perm S') : Fr Γ W S' := by
  obtain ⟨fps, h1, h2, h3⟩ := h.ex
  obtain ⟨m, g, q⟩ := pr_perm p h1
  have qf := q.flatten
  exact ⟨h.fb, h.bh, m, g, qf.nodup_iff.mp h2, fun a ha => h3 a (qf.mem_iff.mpr ha)⟩
theorem Fr.blank (h : Fr Γ W S) (m : Md) (ov : Option V) : Fr Γ W (S ++ [(m, none, ov)]) := by
  obtain ⟨fps, h1, h2, h3⟩ := h.ex
  exact ⟨h.fb, h.bh, fps ++ [[]], pr_app h1 (.cons (by cases m <;> rfl) .nil), by simpa using h2, fun a ha => h3 a (by simpa using ha)⟩
/-- a shared value more -/
theorem Fr.share (h : Fr Γ W S) {t : T} {v : V} (r : Rep Γ W.F W.B t v) : Fr Γ W (S ++ [(.sh, some t, some v)]) := by
  obtain ⟨fps, h1, h2, h3⟩ := h.ex
  exact ⟨h.fb, h.bh, fps ++ [[]], pr_app h1 (.cons ⟨rfl, r⟩ .nil), by simpa using h2, fun a ha => h3 a (by simpa using ha)⟩
/-- a frozen value more -/
theorem Fr.frozen (h : Fr Γ W S) {t : T} {v : V} (r : Rep Γ W.F W.F t v) : Fr Γ W (S ++ [(.own 0, some t, some v)]) := by
  obtain ⟨fps, h1, h2, h3⟩ := h.ex
  exact ⟨h.fb, h.bh, fps ++ [[]], pr_app h1 (.cons (show RepO Γ W.F W.H 0 t v [] by rw [RepO_zero]; exact ⟨rfl, r⟩) .nil), by simpa using h2, fun a ha => h3 a (by simpa using ha)⟩
/-- the last slot into the place of slot i -/
theorem Fr.put {s : Slot} (h : Fr Γ W (S ++ [s])) (i : Nat) : Fr Γ W (S.set i s) := by
  by_cases hi : i < S.length
  · have e : S = S.take i ++ S[i] :: S.drop (i + 1) := by rw [List.getElem_cons_drop]; exact (List.take_append_drop i S).symm
    have e2 : S.set i s = S.take i ++ s :: S.drop (i + 1) := List.set_eq_take_append_cons_drop.trans (by rw [if_pos hi])
    rw [e2]
    refine Fr.pop (S' := [S[i]]) (h.perm ?_)
    have : (S.take i ++ S[i] :: S.drop (i + 1) ++ [s]).Perm (S.take i ++ s :: S.drop (i + 1) ++ [S[i]]) := by
      rw [List.append_assoc, List.append_assoc]
      refine List.Perm.append_left _ ?_
      simp only [List.cons_append]
      refine (List.Perm.cons _ (List.perm_append_comm)).trans ?_
      simp only [List.cons_append, List.nil_append]
      refine (List.Perm.swap _ _ _).trans (List.Perm.cons _ ?_)
      exact (List.perm_append_comm (l₁ := [S[i]]))
    rw [← e] at this
    exact this
  · rw [List.set_eq_of_length_le (by omega)]
    exact h.pop
/-- slot i forgotten -/
theorem Fr.forget (h : Fr Γ W S) (i : Nat) (m : Md) (ov : Option V) : Fr Γ W (S.set i (m, none, ov)) := (h.blank m ov).put i
/-- slot i's tree taken out of it -/
theorem Fr.take {s : Slot} (h : Fr Γ W S) {i : Nat} (hs : S[i]? = some s) (m : Md) (ov : Option V) : Fr Γ W (S.set i (m, none, ov) ++ [s]) := by
  obtain ⟨hi, e1⟩ := List.getElem?_eq_some_iff.mp hs
  have e : S = S.take i ++ s :: S.drop (i + 1) := by rw [← e1, List.getElem_cons_drop]; exact (List.take_append_drop i S).symm
  have e2 : S.set i (m, none, ov) = S.take i ++ (m, none, ov) :: S.drop (i + 1) := List.set_eq_take_append_cons_drop.trans (by rw [if_pos hi])
  refine (h.blank m ov).perm ?_
  rw [e2]
  conv => lhs; rw [e]
  rw [List.append_assoc, List.append_assoc]
  refine List.Perm.append_left _ ?_
  simp only [List.cons_append]
  refine (List.Perm.cons _ (List.perm_append_comm)).trans ?_
  simp only [List.cons_append, List.nil_append]
  refine (List.Perm.swap _ _ _).trans (List.Perm.cons _ ?_)
  exact (List.perm_append_comm (l₁ := [s]))
def isFix (o : Option HO) : Prop := ¬ Mut o
open Classical in
noncomputable def frz (F H : Hp) (fp : List Addr) : Hp := fun a => if (F a).isSome = true then F a else if a ∈ fp ∨ isFix (H a) then H a else none
def join (B F : Hp) : Hp := fun a => if (B a).isSome = true then B a else F a
theorem frz_f {F H : Hp} {fp : List Addr} : Same F (frz F H fp) := fun a o e => by unfold frz; rw [if_pos (by rw [e]; rfl)]; exact e
theorem frz_h {F H : Hp} {fp : List Addr} (hF : Same F H) : Same (frz F H fp) H := fun a o e => by
  unfold frz at e
  split at e
  · exact hF _ _ e
  · split at e
    · exact e
    · cases e
theorem frz_at {F H : Hp} {fp : List Addr} (hF : Same F H) {a : Addr} {o : HO} (ha : a ∈ fp ∨ isFix (H a)) (e : H a = some o) : frz F H fp a = some o := by
  unfold frz
  split
  · rename_i h
    obtain ⟨o', e'⟩ := Option.isSome_iff_exists.mp h
    rw [e', ← e, hF _ _ e']
  · exact e
theorem join_b {B F : Hp} : Same B (join B F) := fun a o e => by unfold join; rw [if_pos (by rw [e]; rfl)]; exact e
theorem join_f {B F H : Hp} (hB : Same B H) (hF : Same F H) : Same F (join B F) := fun a o e => by
  unfold join
  split
  · rename_i h
    obtain ⟨o', e'⟩ := Option.isSome_iff_exists.mp h
    have := hB _ _ e'
    rw [hF _ _ e] at this
    rw [e', this]
  · exact e
theorem join_h {B F H : Hp} (hB : Same B H) (hF : Same F H) : Same (join B F) H := fun a o e => by
  unfold join at e
  split at e
  · exact hB _ _ e
  · exact hF _ _ e
theorem join_none {B F : Hp} {a : Addr} (h1 : B a = none) (h2 : F a = none) : join B F a = none := by
  unfold join; rw [h1]; exact h2
/-- the last slot, frozen -/
theorem Fr.freeze {n : Nat} {t : T} {v : V} (h : Fr Γ W (S ++ [(.own n, some t, some v)])) : ∃ W' : Wd, W.Le W' ∧ W'.H = W.H ∧ Fr Γ W' S ∧ Rep Γ W'.F W'.F t v := by
  obtain ⟨fps, h1, h2, h3⟩ := h.ex
  obtain ⟨m1, m2, rfl, g1, g2⟩ := pr_split h1
  cases g2 with
  | @cons _ fp _ _ r g2 =>
  cases g2
  have fh := h.fb.trans h.bh
  have r' : RepO Γ W.F W.H n t v fp := r
  rw [List.flatten_append, List.nodup_append] at h2
  obtain ⟨n1, n2, dis⟩ := h2
  have F' := frz W.F W.H fp
  have key : ∀ a o, W.H a = some o → ¬ Mut (some o) → frz W.F W.H fp a = some o := fun a o e m => frz_at fh (.inr (by unfold isFix; rw [e]; exact m)) e
  refine ⟨⟨frz W.F W.H fp, join W.B (frz W.F W.H fp), W.H⟩, ⟨frz_f, join_b, fun a o e => ?_⟩, rfl, ⟨join_f h.bh (frz_h fh), join_h h.bh (frz_h fh), m1, ?_, n1, fun a ha => ?_⟩, ?_⟩
  · have e' : frz W.F W.H fp a = some o := e
    unfold frz at e'
    split at e'
    · exact .inl e'
    · split at e'
      · rename_i hh
        rcases hh with hh | hh
        · exact .inr (.inl (h3 a (by simp [hh])))
        · rw [e'] at hh
          exact .inr (.inr hh)
      · cases e'
  · exact pr_keep (W := W) (W' := ⟨frz W.F W.H fp, join W.B (frz W.F W.H fp), W.H⟩) frz_f join_b (fun _ _ q _ => q) g1 fun _ _ _ q => q
  · have hb : W.B a = none := h3 a (by simp at ha ⊢; exact .inl ha)
    refine join_none hb ?_
    show (if _ then _ else _) = _
    rw [if_neg (by rw [h.fb.free hb]; simp), if_neg]
    rintro (hm | hm)
    · exact dis a ha a (by simpa using hm) rfl
    · obtain ⟨o, e, m⟩ := pr_there g1 a ha
      rw [e] at hm
      exact hm m
  · exact RepO.rep frz_f frz_f key t (fun a ha o e => frz_at fh (.inl ha) e) r'
end
end TL
end
section
set_option Elab.async false
set_option Elab.async false
set_option linter.all false
set_option autoImplicit false
set_option maxRecDepth 100000
set_option maxHeartbeats 4000000
namespace TL
open PySem PySem.Spec L2
def sl : List Md → Tau → St → List Slot
  | m :: ms, t :: τ, v :: σ => (m, t, v) :: sl ms τ σ
  | _, _, _ => []
theorem sl_get : ∀ {ms : List Md} {τ : Tau} {σ : St} {i : Nat} {m : Md} {t : Option T} {v : Option V}, ms[i]? = some m → τ[i]? = some t → σ[i]? = some v → (sl ms τ σ)[i]? = some (m, t, v)
  | [], _, _, _, _, _, _, h, _, _ => by simp at h
  | _ :: _, [], _, _, _, _, _, _, h, _ => by simp at h
  | _ :: _, _ :: _, [], _, _, _, _, _, _, h => by simp at h
  | _ :: _, _ :: _, _ :: _, 0, _, _, _, h1, h2, h3 => by simp at h1 h2 h3; simp [sl, h1, h2, h3]
  | _ :: ms, _ :: τ, _ :: σ, i + 1, _, _, _, h1, h2, h3 => by
    have := sl_get (ms := ms) (τ := τ) (σ := σ) (i := i) (by simpa using h1) (by simpa using h2) (by simpa using h3)
    simpa [sl] using this
theorem sl_set : ∀ {ms : List Md} {τ : Tau} {σ : St} {i : Nat} {m : Md} (t : Option T) (v : Option V), ms[i]? = some m → (sl ms τ σ).set i (m, t, v) = sl ms (τ.set i t) (σ.set i v)
  | [], _, _, _, _, _, _, h => by simp at h
  | _ :: _, [], _, i, _, _, _, _ => by cases i <;> simp [sl]
  | _ :: _, _ :: _, [], i, _, _, _, _ => by cases i <;> simp [sl]
  | _ :: _, _ :: _, _ :: _, 0, _, _, _, h => by simp at h; simp [sl, h]
  | _ :: ms, _ :: τ, _ :: σ, i + 1, _, t, v, h => by
    have := sl_set (ms := ms) (τ := τ) (σ := σ) (i := i) t v (by simpa using h)
    simpa [sl] using this
theorem sl_len : ∀ {ms : List Md} {τ : Tau} {σ : St}, τ.length = ms.length → σ.length = ms.length → (sl ms τ σ).length = ms.length
  | [], _, _, _, _ => by simp [sl]
  | _ :: _, [], _, h, _ => by simp at h
  | _ :: _, _ :: _, [], _, h => by simp at h
  | _ :: ms, _ :: τ, _ :: σ, h1, h2 => by
    have := sl_len (ms := ms) (τ := τ) (σ := σ) (by simpa using h1) (by simpa using h2)
    simpa [sl] using this
theorem set_self : ∀ {σ : St} {i : Nat} {v : Option V}, σ[i]? = some v → σ.set i v = σ
  | [], _, _, h => by simp at h
  | _ :: _, 0, _, h => by simp at h; simp [h]
  | _ :: σ, i + 1, _, h => by simpa using set_self (σ := σ) (i := i) (by simpa using h)
structure FrS (Γ : Gm) (W : Wd) (ms : List Md) (τ : Tau) (σ : St) (hs : List Slot) : Prop where
  fr : Fr Γ W (sl ms τ σ ++ hs)
  lt : τ.length = ms.length
  lv : σ.length = ms.length
/-- how surely a value stands: now; while the frame lasts; for ever; new, and one's own -/
inductive RC where
  | now | sh | fz | own (n : Nat) | slot (i : Nat)
  deriving DecidableEq
/-- what is wished of an exception, at the slots as they stand -/
abbrev XW := L2.St → XK
abbrev E0 : XW := fun _ _ _ _ => False
def RepX (Γ : Gm) (W : Wd) (x : Exn) (cls : Value) (d : Option Addr) : Prop := cls = .ref (Γ.cl x.c) ∧ ((x.fs = [] ∧ d = none) ∨ ∃ a fv, d = some a ∧ W.F a = some (.xd fv) ∧ RepF Γ W.F W.F x.fs fv)
def Has (Γ : Gm) (W : Wd) (ms : List Md) (τ : Tau) (σ : St) (hs : List Slot) : RC → T → V → Prop
  | .now, t, v => FrS Γ W ms τ σ hs ∧ Rep Γ W.F W.H t v
  | .sh, t, v => FrS Γ W ms τ σ hs ∧ Rep Γ W.F W.B t v
  | .fz, t, v => FrS Γ W ms τ σ hs ∧ Rep Γ W.F W.F t v
  | .own n, t, v => FrS Γ W ms τ σ (hs ++ [(.own n, some t, some v)])
  | .slot i, t, v => FrS Γ W ms τ σ hs ∧ Rep Γ W.F W.H t v ∧ σ[i]? = some (some v)
/-- p: the step changes no slot and nothing that stands -/
def Go (p : Bool) (W W' : Wd) (τ τ' : Tau) : Prop := W.Le W' ∧ (p = true → Same W.H W'.H ∧ τ' = τ)
theorem Go.refl {p : Bool} {W : Wd} {τ : Tau} : Go p W W τ τ := ⟨.refl _, fun _ => ⟨Same.refl _, rfl⟩⟩
theorem Go.trans {p q : Bool} {W W1 W2 : Wd} {τ τ1 τ2 : Tau} (a : Go p W W1 τ τ1) (b : Go q W1 W2 τ1 τ2) : Go (p && q) W W2 τ τ2 := by
  refine ⟨a.1.trans b.1, fun h => ?_⟩
  rw [Bool.and_eq_true] at h
  obtain ⟨s1, e1⟩ := a.2 h.1
  obtain ⟨s2, e2⟩ := b.2 h.2
  exact ⟨s1.trans s2, e2.trans e1⟩
section
variable (Γ : Gm) (E : XW) (ms : List Md)
/-- what is wanted behind a step -/
def Pst {α : Type} (W : Wd) (σ : St) (hs : List Slot) (p : Bool) (τ : Tau) (ok : Wd → α → Tau → Prop) : RE α → Prop
  | .ok w τ' => ∀ W', Go p W W' τ τ' → ok W' w τ'
  | .exc x τ' => ∀ W' cls d, Go p W W' τ τ' → FrS Γ W' ms τ' σ hs → RepX Γ W' x cls d → E σ cls d W'.H
  | .stuck => False
def SimE (p : Bool) (t : TE) (e : M T) (r : RC) : Prop := ∀ W τ σ hs Q, FrS Γ W ms τ σ hs → Pst Γ E ms W σ hs p τ (fun W' w τ' => ∀ v, Has Γ W' ms τ' σ hs r w v → Q v W'.H) (e τ) → t σ W.H Q
def SimT (p : Bool) (t : TT) (e : M Bool) : Prop := ∀ W τ σ hs Q, FrS Γ W ms τ σ hs → Pst Γ E ms W σ hs p τ (fun W' b τ' => FrS Γ W' ms τ' σ hs → Q b W'.H) (e τ) → t σ W.H Q
end
section
variable {Γ : Gm} {E : XW} {ms : List Md}
/-- one step behind another -/
theorem Pst.bind {α β : Type} {W : Wd} {σ : St} {hs : List Slot} {p q : Bool} {τ : Tau} {m : M α} {f : α → M β} {ok : Wd → β → Tau → Prop} {ok1 : Wd → α → Tau → Prop} (h : Pst Γ E ms W σ hs (p && q) τ ok ((m >>= f) τ))
    (hok : ∀ W1 a τ1, Go p W W1 τ τ1 → Pst Γ E ms W1 σ hs q τ1 ok (f a τ1) → ok1 W1 a τ1) : Pst Γ E ms W σ hs p τ ok1 (m τ) := by
  have e : (m >>= f) τ = (m τ).next f := rfl
  rw [e] at h
  cases hm : m τ with
  | stuck => rw [hm] at h; exact h
  | exc x τ1 =>
    rw [hm] at h
    intro W' cls d g
    exact h W' cls d ⟨g.1, fun z => g.2 (Bool.and_eq_true_iff.mp z).1⟩
  | ok a τ1 =>
    rw [hm] at h
    intro W1 g1
    refine hok W1 a τ1 g1 ?_
    cases hf : f a τ1 with
    | stuck =>
      have h2 : Pst Γ E ms W σ hs (p && q) τ ok (f a τ1) := h
      rw [hf] at h2
      exact h2
    | exc x τ2 =>
      have h2 : Pst Γ E ms W σ hs (p && q) τ ok (f a τ1) := h
      rw [hf] at h2
      intro W2 cls d g2
      exact h2 W2 cls d (g1.trans g2)
    | ok b τ2 =>
      have h2 : Pst Γ E ms W σ hs (p && q) τ ok (f a τ1) := h
      rw [hf] at h2
      intro W2 g2
      exact h2 W2 (g1.trans g2)
theorem Has.fr {W : Wd} {τ : Tau} {σ : St} {hs : List Slot} {r : RC} {t : T} {v : V} (h : Has Γ W ms τ σ hs r t v) : FrS Γ W ms τ σ hs := by
  cases r with
  | now => exact h.1
  | sh => exact h.1
  | fz => exact h.1
  | slot i => exact h.1
  | own n =>
    have h' : FrS Γ W ms τ σ (hs ++ [(.own n, some t, some v)]) := h
    exact ⟨Fr.pop (S' := [(.own n, some t, some v)]) (by rw [List.append_assoc]; exact h'.fr), h'.lt, h'.lv⟩
/-- a value that stands now -/
theorem Has.now {W : Wd} {τ : Tau} {σ : St} {hs : List Slot} {r : RC} {t : T} {v : V} (h : Has Γ W ms τ σ hs r t v) : Rep Γ W.F W.H t v := by
  have f := h.fr.fr
  cases r with
  | now => exact h.2
  | slot i => exact h.2.1
  | sh => exact Rep.mono (Same.refl _) t f.bh h.2
  | fz => exact Rep.mono (Same.refl _) t (f.fb.trans f.bh) h.2
  | own n =>
    have h' : FrS Γ W ms τ σ (hs ++ [(.own n, some t, some v)]) := h
    obtain ⟨fps, h1, _, _⟩ := h'.fr.ex
    rw [← List.append_assoc] at h1
    obtain ⟨m1, m2, rfl, g1, g2⟩ := pr_split h1
    cases g2 with
    | cons r g2 => exact RepO.now (f.fb.trans f.bh) (show RepO Γ W.F W.H n t v _ from r)
/-- whatever is made may be frozen -/
theorem SimE.frz {p : Bool} {t : TE} {e : M T} {n : Nat} (h : SimE Γ E ms p t e (.own n)) : SimE Γ E ms p t e .fz := by
  intro W τ σ hs Q hF hp
  refine h W τ σ hs Q hF ?_
  cases he : e τ with
  | stuck => rw [he] at hp; exact hp
  | exc x τ' => rw [he] at hp; exact hp
  | ok w τ' =>
    rw [he] at hp
    intro W' g v hh
    have h' : FrS Γ W' ms τ' σ (hs ++ [(.own n, some w, some v)]) := hh
    obtain ⟨W2, l, eH, f2, r2⟩ := Fr.freeze (S := sl ms τ' σ ++ hs) (by rw [List.append_assoc]; exact h'.fr)
    have := hp W2 ⟨g.1.trans l, fun z => ⟨by rw [eH]; exact (g.2 z).1, (g.2 z).2⟩⟩ v ⟨⟨f2, h'.lt, h'.lv⟩, r2⟩
    rw [eH] at this
    exact this
theorem Rep.of_fz {W : Wd} {S : List Slot} (f : Fr Γ W S) {t : T} {v : V} (h : Rep Γ W.F W.F t v) : Rep Γ W.F W.B t v := Rep.mono (Same.refl _) t f.fb h
theorem SimE.sh {p : Bool} {t : TE} {e : M T} (h : SimE Γ E ms p t e .fz) : SimE Γ E ms p t e .sh := by
  intro W τ σ hs Q hF hp
  refine h W τ σ hs Q hF ?_
  cases he : e τ with
  | stuck => rw [he] at hp; exact hp
  | exc x τ' => rw [he] at hp; exact hp
  | ok w τ' =>
    rw [he] at hp
    intro W' g v hh
    exact hp W' g v ⟨hh.1, hh.1.fr |> fun f => Rep.of_fz f hh.2⟩
theorem SimE.now {p : Bool} {t : TE} {e : M T} {r : RC} (h : SimE Γ E ms p t e r) : SimE Γ E ms p t e .now := by
  intro W τ σ hs Q hF hp
  refine h W τ σ hs Q hF ?_
  cases he : e τ with
  | stuck => rw [he] at hp; exact hp
  | exc x τ' => rw [he] at hp; exact hp
  | ok w τ' =>
    rw [he] at hp
    intro W' g v hh
    exact hp W' g v ⟨hh.fr, hh.now⟩
theorem SimE.impure {p : Bool} {t : TE} {e : M T} {r : RC} (h : SimE Γ E ms p t e r) : SimE Γ E ms false t e r := by
  intro W τ σ hs Q hF hp
  refine h W τ σ hs Q hF ?_
  cases he : e τ with
  | stuck => rw [he] at hp; exact hp
  | exc x τ' =>
    rw [he] at hp
    intro W' cls d g
    exact hp W' cls d ⟨g.1, fun z => nomatch z⟩
  | ok w τ' =>
    rw [he] at hp
    intro W' g
    exact hp W' ⟨g.1, fun z => nomatch z⟩
end
end TL
end
section
set_option Elab.async false
set_option Elab.async false
set_option linter.all false
set_option autoImplicit false
set_option maxRecDepth 100000
set_option maxHeartbeats 4000000
namespace TL
open PySem PySem.Spec L2
section
variable {Γ : Gm} {E : XW} {ms : List Md} {W : Wd} {τ : Tau} {σ : St} {hs : List Slot}
theorem FrS.slot (h : FrS Γ W ms τ σ hs) {i : Nat} {m : Md} {t : T} (hm : ms[i]? = some m) (ht : τ[i]? = some (some t)) :
    ∃ v fp, σ[i]? = some (some v) ∧ (sl ms τ σ ++ hs)[i]? = some (m, some t, some v) ∧ SlotOk Γ W (m, some t, some v) fp ∧ fp.Nodup ∧ ∀ a ∈ fp, W.B a = none := by
  obtain ⟨hi, _⟩ := List.getElem?_eq_some_iff.mp hm
  have hv : σ[i]? = some (σ[i]'(by rw [h.lv]; exact hi)) := List.getElem?_eq_getElem _
  have hg := sl_get hm ht hv
  have hl := sl_len h.lt h.lv
  have hg' : (sl ms τ σ ++ hs)[i]? = some (m, some t, σ[i]'(by rw [h.lv]; exact hi)) := by rw [List.getElem?_append_left (by omega)]; exact hg
  obtain ⟨fp, h1, h2, h3, _⟩ := h.fr.change hg'
  cases e : σ[i]'(by rw [h.lv]; exact hi) with
  | none => rw [e] at h1; exact absurd h1 (by cases m <;> exact id)
  | some v => rw [e] at h1 hv hg'; exact ⟨v, fp, hv, hg', h1, h2, h3⟩
/-- a name, read -/
def ModeOf : Md → RC → Prop
  | .sh, .sh => True
  | .sh, .now => True
  | .own 0, .fz => True
  | .own 0, .sh => True
  | .own _, .now => True
  | .lent _, .now => True
  | .own _, .slot _ => True
  | .lent _, .slot _ => True
  | _, _ => False
theorem sim_var {i : Nat} {m : Md} {r : RC} (hm : ms[i]? = some m) (hr : ModeOf m r) (hj : ∀ j, r = .slot j → j = i := by intro j h; cases h; rfl) : SimE Γ E ms true (tVar i) (get i) r := by
  intro W τ σ hs Q hF hp
  unfold get at hp
  cases ht : τ[i]? with
  | none => rw [ht] at hp; exact hp.elim
  | some o =>
    cases o with
    | none => rw [ht] at hp; exact hp.elim
    | some t =>
      rw [ht] at hp
      obtain ⟨v, fp, hv, hg, hs, _, _⟩ := hF.slot hm ht
      refine ⟨v, hv, hp W Go.refl v ?_⟩
      cases m with
      | obj => cases r <;> exact (show False from hr).elim
      | ex a d => cases r <;> exact (show False from hr).elim
      | sh =>
        cases r with
        | sh => exact ⟨hF, hs.2⟩
        | now => exact ⟨hF, Rep.mono (Same.refl _) t hF.fr.bh hs.2⟩
        | fz => exact hr.elim
        | own n => exact hr.elim
        | slot j => exact hr.elim
      | lent n =>
        have ho : RepO Γ W.F W.H n t v fp := hs
        cases r with
        | now => exact ⟨hF, RepO.now (hF.fr.fb.trans hF.fr.bh) ho⟩
        | slot j => exact ⟨hF, RepO.now (hF.fr.fb.trans hF.fr.bh) ho, by rw [hj j rfl]; exact hv⟩
        | fz => exact hr.elim
        | sh => exact hr.elim
        | own k => exact hr.elim
      | own n =>
        have ho : RepO Γ W.F W.H n t v fp := hs
        cases r with
        | now => exact ⟨hF, RepO.now (hF.fr.fb.trans hF.fr.bh) ho⟩
        | fz =>
          cases n with
          | zero => rw [RepO_zero] at ho; exact ⟨hF, ho.2⟩
          | succ n => exact hr.elim
        | sh =>
          cases n with
          | zero => rw [RepO_zero] at ho; exact ⟨hF, Rep.of_fz hF.fr ho.2⟩
          | succ n => exact hr.elim
        | slot j => exact ⟨hF, RepO.now (hF.fr.fb.trans hF.fr.bh) ho, by rw [hj j rfl]; exact hv⟩
        | own k => cases n <;> exact hr.elim
/-- a name's tree, taken -/
theorem sim_mv {i n : Nat} (hm : ms[i]? = some (.own n)) : SimE Γ E ms false (tVar i) (mv i) (.own n) := by
  intro W τ σ hs Q hF hp
  unfold mv at hp
  cases ht : τ[i]? with
  | none => rw [ht] at hp; exact hp.elim
  | some o =>
    cases o with
    | none => rw [ht] at hp; exact hp.elim
    | some t =>
      rw [ht] at hp
      obtain ⟨v, fp, hv, hg, hsl, _, _⟩ := hF.slot hm ht
      refine ⟨v, hv, hp W ⟨.refl _, fun z => nomatch z⟩ v ⟨?_, by rw [List.length_set]; exact hF.lt, hF.lv⟩⟩
      have := hF.fr.take hg (.own n) (some v)
      have hl := sl_len hF.lt hF.lv
      obtain ⟨hi, _⟩ := List.getElem?_eq_some_iff.mp hm
      rw [List.set_append_left _ _ (by omega), sl_set _ _ hm, set_self hv, List.append_assoc] at this
      exact this
abbrev hp0 : Hp := fun _ => none
theorem hp0_sub {H : Hp} : Same hp0 H := fun _ _ h => nomatch h
/-- w is v whatever the heap -/
abbrev Rep0 (Γ : Gm) (w : T) (v : V) : Prop := Rep Γ hp0 hp0 w v
theorem Rep0.rep {w : T} {v : V} (h : Rep0 Γ w v) {F B : Hp} : Rep Γ F B w v := Rep.mono hp0_sub w hp0_sub h
theorem sim_c {t : T} {v : V} (h : Rep0 Γ t v) : SimE Γ E ms true (tC v) (M.pure t) .fz := fun W τ σ hs Q hF hp => hp W Go.refl v ⟨hF, h.rep⟩
theorem Rep0.int {i : Int} : Rep0 Γ (.int i) (.int i) := rfl
theorem Rep0.str {x : Str} : Rep0 Γ (.str x) (.str x) := rfl
theorem Rep0.bl {b : Bool} : Rep0 Γ (.bl b) (.bl b) := rfl
theorem Rep0.non : Rep0 Γ .non .non := rfl
def Stay : RC → Bool → Prop
  | .now, q => q = true
  | .sh, _ => True
  | .fz, _ => True
  | .own _, _ => False
  | .slot _, q => q = true
theorem Has.later {W W' : Wd} {τ τ' : Tau} {r : RC} {q : Bool} {t : T} {v : V} (h : Has Γ W ms τ σ hs r t v) (g : Go q W W' τ τ') (hF : FrS Γ W' ms τ' σ hs) (hst : Stay r q) : Has Γ W' ms τ' σ hs r t v := by
  cases r with
  | now => exact ⟨hF, Rep.mono g.1.f t (g.2 hst).1 h.2⟩
  | sh => exact ⟨hF, Rep.mono g.1.f t g.1.b h.2⟩
  | fz => exact ⟨hF, Rep.mono g.1.f t g.1.f h.2⟩
  | slot i => exact ⟨hF, Rep.mono g.1.f t (g.2 hst).1 h.2.1, h.2.2⟩
  | own n => exact hst.elim
def OpS (Γ : Gm) (r : R2) (f : T → T → Option T) : Prop := ∀ (F H : Hp) (x y w : T) (vx vy : V) (Q : VK), Rep Γ F H x vx → Rep Γ F H y vy → f x y = some w → (∀ v, Rep0 Γ w v → Q v H) → r vx vy H Q
theorem sim_op {r : R2} {f : T → T → Option T} {p q : Bool} {ta tb : TE} {ea eb : M T} {ra rb : RC} (ho : OpS Γ r f) (ha : SimE Γ E ms p ta ea ra) (hb : SimE Γ E ms q tb eb rb) (hst : Stay ra q) :
    SimE Γ E ms (p && q) (tOp r ta tb) (ea >>= fun x => eb >>= fun y => M.of (f x y)) .fz := by
  intro W τ σ hs Q hF hp
  refine ha W τ σ hs _ hF (Pst.bind hp fun W1 x τ1 g1 hp1 vx h1 => ?_)
  refine hb W1 τ1 σ hs _ h1.fr ?_
  have hp1' : Pst Γ E ms W1 σ hs (q && true) τ1 (fun W' w τ' => ∀ v, Has Γ W' ms τ' σ hs .fz w v → Q v W'.H) ((eb >>= fun y => M.of (f x y)) τ1) := by rw [Bool.and_true]; exact hp1
  refine Pst.bind hp1' fun W2 y τ2 g2 hp2 vy h2 => ?_
  have h1' := h1.later g2 h2.fr hst
  cases hf : f x y with
  | none => rw [hf] at hp2; exact hp2.elim
  | some w =>
    rw [hf] at hp2
    exact ho W2.F W2.H x y w vx vy Q h1'.now h2.now hf fun v hv => hp2 W2 Go.refl v ⟨h2.fr, hv.rep⟩
/-- what is found in the left one, at the right one -/
def ElS (Γ : Gm) (r : R2) (f : T → T → Option T) : Prop := ∀ (F G H : Hp) (x y w : T) (vx vy : V) (Q : VK), Same F H → Same G H → Rep Γ F G x vx → Rep Γ F H y vy → f x y = some w → (∀ v, Rep Γ F G w v → Q v H) → r vx vy H Q
theorem sim_el {r : R2} {f : T → T → Option T} {p q : Bool} {ta tb : TE} {ea eb : M T} {ra rb : RC} (ho : ElS Γ r f) (ha : SimE Γ E ms p ta ea ra) (hb : SimE Γ E ms q tb eb rb) (hst : Stay ra q) (hns : ∀ i, ra ≠ .slot i := by intro i h; cases h) :
    SimE Γ E ms (p && q) (tOp r ta tb) (ea >>= fun x => eb >>= fun y => M.of (f x y)) ra := by
  intro W τ σ hs Q hF hp
  refine ha W τ σ hs _ hF (Pst.bind hp fun W1 x τ1 g1 hp1 vx h1 => ?_)
  refine hb W1 τ1 σ hs _ h1.fr ?_
  have hp1' : Pst Γ E ms W1 σ hs (q && true) τ1 (fun W' w τ' => ∀ v, Has Γ W' ms τ' σ hs ra w v → Q v W'.H) ((eb >>= fun y => M.of (f x y)) τ1) := by rw [Bool.and_true]; exact hp1
  refine Pst.bind hp1' fun W2 y τ2 g2 hp2 vy h2 => ?_
  have h1' := h1.later g2 h2.fr hst
  have fb := h2.fr.fr.fb
  have bh := h2.fr.fr.bh
  cases hf : f x y with
  | none => rw [hf] at hp2; exact hp2.elim
  | some w =>
    rw [hf] at hp2
    cases ra with
    | now => exact ho W2.F W2.H W2.H x y w vx vy Q (fb.trans bh) (Same.refl _) h1'.2 h2.now hf fun v hv => hp2 W2 Go.refl v ⟨h2.fr, hv⟩
    | sh => exact ho W2.F W2.B W2.H x y w vx vy Q (fb.trans bh) bh h1'.2 h2.now hf fun v hv => hp2 W2 Go.refl v ⟨h2.fr, hv⟩
    | fz => exact ho W2.F W2.F W2.H x y w vx vy Q (fb.trans bh) (fb.trans bh) h1'.2 h2.now hf fun v hv => hp2 W2 Go.refl v ⟨h2.fr, hv⟩
    | slot i => exact (hns i rfl).elim
    | own n => exact hst.elim
theorem Pst.imp {α : Type} {p : Bool} {ok ok' : Wd → α → Tau → Prop} {r : RE α} (h : Pst Γ E ms W σ hs p τ ok r) (hi : ∀ W' a τ', Go p W W' τ τ' → ok W' a τ' → ok' W' a τ') : Pst Γ E ms W σ hs p τ ok' r := by
  cases r with
  | stuck => exact h
  | exc x τ' => exact h
  | ok a τ' => exact fun W' g => hi W' a τ' g (h W' g)
theorem Pst.bind1 {α β : Type} {p : Bool} {m : M α} {f : α → M β} {ok : Wd → β → Tau → Prop} {ok1 : Wd → α → Tau → Prop} (h : Pst Γ E ms W σ hs p τ ok ((m >>= f) τ))
    (hok : ∀ W1 a τ1, Go p W W1 τ τ1 → Pst Γ E ms W1 σ hs true τ1 ok (f a τ1) → ok1 W1 a τ1) : Pst Γ E ms W σ hs p τ ok1 (m τ) :=
  Pst.bind (q := true) (by rw [Bool.and_true]; exact h) hok
theorem sim_test {p : Bool} {te : TE} {e : M T} {r : RC} (h : SimE Γ E ms p te e r) : SimT Γ E ms p (tTest te) (e >>= asB) := by
  intro W τ σ hs Q hF hp
  refine h W τ σ hs _ hF (Pst.bind1 hp fun W1 x τ1 g1 hp1 v h1 => ?_)
  cases x with
  | bl b =>
    have e : v = .bl b := h1.now
    exact ⟨b, e, hp1 W1 Go.refl h1.fr⟩
  | _ => exact (show False from hp1).elim
theorem sim_tB {p : Bool} {te : TE} {e : M T} {r : RC} (h : SimE Γ E ms p te e r) : SimT Γ E ms p (tB te) (e >>= asB) := sim_test h
theorem sim_and {p q : Bool} {t u : TT} {e f : M Bool} (h1 : SimT Γ E ms p t e) (h2 : SimT Γ E ms q u f) : SimT Γ E ms (p && q) (tAnd t u) (e >>= fun b => if b = true then f else M.pure false) := by
  intro W τ σ hs Q hF hp
  refine h1 W τ σ hs _ hF (Pst.bind hp fun W1 b τ1 g1 hp1 hF1 => ?_)
  cases b with
  | true => exact iteT (h2 W1 τ1 σ hs Q hF1 hp1)
  | false => exact iteF (hp1 W1 ⟨.refl _, fun _ => ⟨Same.refl _, rfl⟩⟩ hF1)
theorem sim_or {p q : Bool} {t u : TT} {e f : M Bool} (h1 : SimT Γ E ms p t e) (h2 : SimT Γ E ms q u f) : SimT Γ E ms (p && q) (tOr t u) (e >>= fun b => if b = true then M.pure true else f) := by
  intro W τ σ hs Q hF hp
  refine h1 W τ σ hs _ hF (Pst.bind hp fun W1 b τ1 g1 hp1 hF1 => ?_)
  cases b with
  | false => exact iteF (h2 W1 τ1 σ hs Q hF1 hp1)
  | true => exact iteT (hp1 W1 ⟨.refl _, fun _ => ⟨Same.refl _, rfl⟩⟩ hF1)
theorem sim_not {p : Bool} {t : TT} {e : M Bool} (h : SimT Γ E ms p t e) : SimT Γ E ms p (tNot t) (e >>= fun b => M.pure (!b)) := by
  intro W τ σ hs Q hF hp
  refine h W τ σ hs _ hF (Pst.bind1 hp fun W1 b τ1 g1 hp1 hF1 => hp1 W1 Go.refl hF1)
end
end TL
end
section
set_option Elab.async false
set_option Elab.async false
set_option linter.all false
set_option autoImplicit false
set_option maxRecDepth 100000
set_option maxHeartbeats 4000000
namespace TL
open PySem PySem.Spec L2
/-- what is lent stays where it is -/
structure Nx (ms : List Md) (W : Wd) (σ : St) (W' : Wd) (σ' : St) : Prop where
  le : W.Le W'
  kl : ∀ (i : Nat) (m : Md), (ms[i]? = some m ∧ m.kept = true) → σ'[i]? = σ[i]?
theorem Nx.refl {ms : List Md} {W : Wd} {σ : St} : Nx ms W σ W σ := ⟨.refl _, fun _ _ _ => rfl⟩
theorem Nx.of {ms : List Md} {W W' : Wd} {σ : St} (l : W.Le W') : Nx ms W σ W' σ := ⟨l, fun _ _ _ => rfl⟩
theorem Nx.trans {ms : List Md} {W W1 W2 : Wd} {σ σ1 σ2 : St} (a : Nx ms W σ W1 σ1) (b : Nx ms W1 σ1 W2 σ2) : Nx ms W σ W2 σ2 := ⟨a.le.trans b.le, fun i n h => (b.kl i n h).trans (a.kl i n h)⟩
section
variable (Γ : Gm) (E : XW) (ms : List Md) (rr : RC)
def PstS (W : Wd) (σ : St) (hs : List Slot) (D : Ends) : RE Ctl → Prop
  | .ok .nx τ' => ∀ W' σ', Nx ms W σ W' σ' → FrS Γ W' ms τ' σ' hs → D.nx σ' W'.H
  | .ok (.rt w) τ' => ∀ W' σ' v, Nx ms W σ W' σ' → Has Γ W' ms τ' σ' hs rr w v → D.rt v W'.H
  | .ok .bk τ' => ∀ W' σ', Nx ms W σ W' σ' → FrS Γ W' ms τ' σ' hs → D.bk σ' W'.H
  | .ok .ct τ' => ∀ W' σ', Nx ms W σ W' σ' → FrS Γ W' ms τ' σ' hs → D.ct σ' W'.H
  | .exc x τ' => ∀ W' σ' cls d, Nx ms W σ W' σ' → FrS Γ W' ms τ' σ' hs → RepX Γ W' x cls d → E σ' cls d W'.H
  | .stuck => False
def SimS (t : TS) (s : M Ctl) : Prop := ∀ W τ σ hs D, FrS Γ W ms τ σ hs → PstS Γ E ms rr W σ hs D (s τ) → t D σ W.H
end
section
variable {Γ : Gm} {E : XW} {ms : List Md} {rr : RC}
theorem PstS.le {W W1 : Wd} {σ σ1 : St} {hs : List Slot} {D : Ends} {r : RE Ctl} (l : Nx ms W σ W1 σ1) (h : PstS Γ E ms rr W σ hs D r) : PstS Γ E ms rr W1 σ1 hs D r := by
  cases r with
  | stuck => exact h
  | exc x τ => exact fun W' σ' cls d g => h W' σ' cls d (l.trans g)
  | ok c τ =>
    cases c with
    | nx => exact fun W' σ' g => h W' σ' (l.trans g)
    | bk => exact fun W' σ' g => h W' σ' (l.trans g)
    | ct => exact fun W' σ' g => h W' σ' (l.trans g)
    | rt w => exact fun W' σ' v g => h W' σ' v (l.trans g)
/-- an expression's step, then a statement's -/
theorem PstS.bind {α : Type} {W : Wd} {τ : Tau} {σ : St} {hs : List Slot} {D : Ends} {p : Bool} {m : M α} {f : α → M Ctl} {ok1 : Wd → α → Tau → Prop} (h : PstS Γ E ms rr W σ hs D ((m >>= f) τ))
    (hok : ∀ W1 a τ1, W.Le W1 → PstS Γ E ms rr W1 σ hs D (f a τ1) → ok1 W1 a τ1) : Pst Γ E ms W σ hs p τ ok1 (m τ) := by
  have e : (m >>= f) τ = (m τ).next f := rfl
  rw [e] at h
  cases hm : m τ with
  | stuck => rw [hm] at h; exact h
  | exc x τ1 => rw [hm] at h; exact fun W' cls d g hF hx => h W' σ cls d (.of g.1) hF hx
  | ok a τ1 => rw [hm] at h; exact fun W1 g => hok W1 a τ1 g.1 (h.le (.of g.1))
theorem sim_next : SimS Γ E ms rr tNext sNx := fun W τ σ hs D hF hp => hp W σ .refl hF
theorem sim_never : SimS Γ E ms rr tNever M.stuck := fun W τ σ hs D hF hp => hp
theorem sim_seq {t u : TS} {a b : M Ctl} (h1 : SimS Γ E ms rr t a) (h2 : SimS Γ E ms rr u b) : SimS Γ E ms rr (tSeq t u) (sSeq a b) := by
  intro W τ σ hs D hF hp
  refine h1 W τ σ hs { D with nx := u D } hF ?_
  have e : sSeq a b τ = (a τ).next fun c => match c with
    | .nx => b
    | c => M.pure c := rfl
  rw [e] at hp
  cases ha : a τ with
  | stuck => rw [ha] at hp; exact hp
  | exc x τ1 => rw [ha] at hp; exact hp
  | ok c τ1 =>
    rw [ha] at hp
    cases c with
    | nx => exact fun W' σ' l hF' => h2 W' τ1 σ' hs D hF' (hp.le l)
    | bk => exact hp
    | ct => exact hp
    | rt w => exact hp
theorem sim_ret {p : Bool} {te : TE} {e : M T} (h : SimE Γ E ms p te e rr) : SimS Γ E ms rr (tRet te) (sRet e) := by
  intro W τ σ hs D hF hp
  exact h W τ σ hs D.rt hF (PstS.bind hp fun W1 w τ1 l hp1 v hv => hp1 W1 σ v .refl hv)
theorem sim_drop {p : Bool} {te : TE} {e : M T} {r : RC} (h : SimE Γ E ms p te e r) : SimS Γ E ms rr (tDrop te) (sDrop e) := by
  intro W τ σ hs D hF hp
  exact h W τ σ hs _ hF (PstS.bind hp fun W1 w τ1 l hp1 v hv => hp1 W1 σ .refl hv.fr)
theorem sim_ifS {p : Bool} {c : TT} {e : M Bool} {t u : TS} {a b : M Ctl} (h : SimT Γ E ms p c e) (h1 : SimS Γ E ms rr t a) (h2 : SimS Γ E ms rr u b) : SimS Γ E ms rr (tIfS c t u) (sIf e a b) := by
  intro W τ σ hs D hF hp
  refine h W τ σ hs _ hF (PstS.bind hp fun W1 x τ1 l hp1 hF1 => ?_)
  cases x with
  | true => exact iteT (h1 W1 τ1 σ hs D hF1 hp1)
  | false => exact iteF (h2 W1 τ1 σ hs D hF1 hp1)
/-- a value into a slot -/
def Into : RC → Md → Prop
  | .sh, .sh => True
  | .fz, .sh => True
  | .fz, .own 0 => True
  | .own n, .own m => n = m
  | _, _ => False
theorem FrS.set {W : Wd} {τ : Tau} {σ : St} {hs : List Slot} {r : RC} {m : Md} {i : Nat} {w : T} {v : V} (h : Has Γ W ms τ σ hs r w v) (hm : ms[i]? = some m) (hr : Into r m) : FrS Γ W ms (τ.set i (some w)) (σ.set i (some v)) hs := by
  have hF := h.fr
  obtain ⟨hi, _⟩ := List.getElem?_eq_some_iff.mp hm
  have hl := sl_len hF.lt hF.lv
  have fin : Fr Γ W (sl ms τ σ ++ hs ++ [(m, some w, some v)]) → FrS Γ W ms (τ.set i (some w)) (σ.set i (some v)) hs := fun f => by
    have := f.put i
    rw [List.set_append_left _ _ (by omega), sl_set _ _ hm] at this
    exact ⟨this, by rw [List.length_set]; exact hF.lt, by rw [List.length_set]; exact hF.lv⟩
  cases r with
  | now => exact hr.elim
  | sh =>
    cases m with
    | sh => exact fin (hF.fr.share h.2)
    | own n => exact hr.elim
    | obj => exact hr.elim
    | ex _ _ => exact hr.elim
    | lent n => exact hr.elim
  | slot j => exact hr.elim
  | fz =>
    cases m with
    | sh => exact fin (hF.fr.share (Rep.of_fz hF.fr h.2))
    | own n =>
      cases n with
      | zero => exact fin (hF.fr.frozen h.2)
      | succ n => exact hr.elim
    | obj => exact hr.elim
    | ex _ _ => exact hr.elim
    | lent n => exact hr.elim
  | own k =>
    cases m with
    | sh => exact hr.elim
    | obj => exact hr.elim
    | ex _ _ => exact hr.elim
    | lent n => exact hr.elim
    | own n =>
      have e : k = n := hr
      subst e
      have h' : FrS Γ W ms τ σ (hs ++ [(.own k, some w, some v)]) := h
      exact fin (by rw [List.append_assoc]; exact h'.fr)
theorem sim_set {p : Bool} {te : TE} {e : M T} {r : RC} {m : Md} {i : Nat} (h : SimE Γ E ms p te e r) (hm : ms[i]? = some m) (hr : Into r m) : SimS Γ E ms rr (tAsg te (gName i)) (sSet i e) := by
  intro W τ σ hs D hF hp
  refine h W τ σ hs _ hF (PstS.bind hp fun W1 w τ1 l hp1 v hv => ?_)
  refine hp1 W1 _ ⟨.refl _, fun j n hj => ?_⟩ (FrS.set hv hm hr)
  by_cases e : i = j
  · subst e
    obtain ⟨hj, hk⟩ := hj
    rw [hm] at hj; cases hj
    cases m <;> first | (cases hk; done) | skip
    all_goals cases r <;> exact (show False from hr).elim
  · rw [List.getElem?_set_ne e]
variable (Γ) in
def GOf (W : Wd) : RC → Hp
  | .fz => W.F
  | _ => W.B
/-- the iterator J goes through xs (each item as r says) from the world W on -/
def Iter (Γ : Gm) (r : RC) (W : Wd) (J : It) (xs : List T) : Prop := ∀ (W' : Wd) (S : List Slot), W.Le W' → Fr Γ W' S → J.stop xs.length W'.H ∧ ∀ (i : Nat) (x : T), xs[i]? = some x → J.go i W'.H ∧ ∀ v H', J.yld i W'.H v H' →
  ∃ W'' : Wd, W''.H = H' ∧ W'.Le W'' ∧ Fr Γ W'' S ∧ Rep Γ W''.F (GOf W'' r) x v
def SimI (Γ : Gm) (E : XW) (ms : List Md) (p : Bool) (wi : TI) (e : M (List T)) (r : RC) : Prop := ∀ W τ σ hs R, FrS Γ W ms τ σ hs → Pst Γ E ms W σ hs p τ (fun W' xs τ' => ∀ J, FrS Γ W' ms τ' σ hs → Iter Γ r W' J xs → R J W'.H) (e τ) → wi σ W.H R
def SimG (Γ : Gm) (ms : List Md) (g : TG) (b : T → M Unit) (r : RC) : Prop := ∀ W τ σ hs x v R τ', FrS Γ W ms τ σ hs → Rep Γ W.F (GOf W r) x v → b x τ = .ok () τ' → (∀ W' σ', Nx ms W σ W' σ' → FrS Γ W' ms τ' σ' hs → R σ' W'.H) → g v σ W.H R
theorem sim_gname {i : Nat} {m : Md} {r : RC} (hm : ms[i]? = some m) (hr : Into r m) (hk : r = .sh ∨ r = .fz) : SimG Γ ms (gName i) (put i) r := by
  intro W τ σ hs x v R τ' hF hx hb hR
  have e : τ' = τ.set i (some x) := by injection hb with _ h; exact h.symm
  subst e
  refine hR W _ ⟨.refl _, fun j n hj => ?_⟩ (FrS.set (r := r) ?_ hm hr)
  · by_cases e : i = j
    · subst e
      obtain ⟨hj, hk⟩ := hj
      rw [hm] at hj; cases hj
      cases m <;> first | (cases hk; done) | skip
      all_goals cases r <;> exact (show False from hr).elim
    · rw [List.getElem?_set_ne e]
  · rcases hk with rfl | rfl
    · exact ⟨hF, hx⟩
    · exact ⟨hF, hx⟩
/-- a loop's body gives no error of the binding: it is stuck then -/
theorem sim_for {p : Bool} {wi : TI} {e : M (List T)} {g : TG} {bg : T → M Unit} {tb : TS} {b : M Ctl} {r : RC} (hi : SimI Γ E ms p wi e r) (hg : SimG Γ ms g bg r) (hb : SimS Γ E ms rr tb b) (hne : ∀ x τ, ∀ y τ', bg x τ ≠ .exc y τ') : SimS Γ E ms rr (tFor wi g tb) (e >>= sFor bg b) := by
  intro W τ σ hs D hF hp
  refine hi W τ σ hs _ hF (PstS.bind hp fun W1 xs τ1 l1 hp1 J hF1 hJ => ?_)
  refine ⟨fun i m σ' H' => ∃ W' τ', W'.H = H' ∧ W1.Le W' ∧ i ≤ xs.length ∧ m = xs.length - i ∧ FrS Γ W' ms τ' σ' hs ∧ PstS Γ E ms rr W' σ' hs D (sFor bg b (xs.drop i) τ'), ⟨xs.length, W1, τ1, rfl, .refl _, Nat.zero_le _, rfl, hF1, by simpa using hp1⟩, ?_⟩
  rintro i m σ2 H2 ⟨W2, τ2, rfl, l2, hi2, rfl, hF2, hp2⟩
  obtain ⟨hstop, hgo⟩ := hJ W2 _ l2 hF2.fr
  by_cases hlt : i < xs.length
  · right
    obtain ⟨g1, g2⟩ := hgo i xs[i] (List.getElem?_eq_getElem hlt)
    refine ⟨g1, fun σ' H' => ∃ W' τ', W'.H = H' ∧ W1.Le W' ∧ FrS Γ W' ms τ' σ' hs ∧ PstS Γ E ms rr W' σ' hs D (sFor bg b (xs.drop (i + 1)) τ'), ?_, ?_⟩
    · rintro σ' H' ⟨W', τ', rfl, l', hF', hp'⟩
      exact ⟨xs.length - (i + 1), by omega, W', τ', rfl, l', hlt, rfl, hF', hp'⟩
    · intro v H' hy
      obtain ⟨W3, rfl, l3, hF3, hr3⟩ := g2 v H' hy
      rw [List.drop_eq_getElem_cons hlt] at hp2
      have e4 : sFor bg b (xs[i] :: xs.drop (i + 1)) τ2 = (bg xs[i] τ2).next fun _ => b >>= turn (sFor bg b (xs.drop (i + 1))) := rfl
      rw [e4] at hp2
      cases hbg : bg xs[i] τ2 with
      | stuck => rw [hbg] at hp2; exact hp2.elim
      | exc y τ3 => exact (hne _ _ _ _ hbg).elim
      | ok u τ3 =>
        rw [hbg] at hp2
        refine hg W3 τ2 σ2 hs xs[i] v _ τ3 ⟨hF3, hF2.lt, hF2.lv⟩ hr3 hbg fun W4 σ4 l4 hF4 => ?_
        refine hb W4 τ3 σ4 hs _ hF4 ?_
        have hp4 : PstS Γ E ms rr W4 σ4 hs D ((b >>= turn (sFor bg b (xs.drop (i + 1)))) τ3) := PstS.le ((Nx.of l3).trans l4) hp2
        have e5 : (b >>= turn (sFor bg b (xs.drop (i + 1)))) τ3 = (b τ3).next (turn (sFor bg b (xs.drop (i + 1)))) := rfl
        rw [e5] at hp4
        have l14 : W1.Le W4 := (l2.trans l3).trans l4.le
        cases hbt : b τ3 with
        | stuck => rw [hbt] at hp4; exact hp4
        | exc x τ5 => rw [hbt] at hp4; exact hp4
        | ok c τ5 =>
          rw [hbt] at hp4
          cases c with
          | nx => exact fun W' σ' l hF' => ⟨W', τ5, rfl, l14.trans l.le, hF', hp4.le l⟩
          | ct => exact fun W' σ' l hF' => ⟨W', τ5, rfl, l14.trans l.le, hF', hp4.le l⟩
          | bk => exact fun W' σ' l hF' => hp4 W' σ' l hF'
          | rt w => exact fun W' σ' v l hv => hp4 W' σ' v l hv
  · left
    have e : i = xs.length := by omega
    subst e
    rw [List.drop_length] at hp2
    exact ⟨hstop, hp2 W2 σ2 .refl hF2⟩
end
end TL
end
section
set_option Elab.async false
set_option Elab.async false
set_option linter.all false
set_option autoImplicit false
set_option maxRecDepth 100000
set_option maxHeartbeats 4000000
namespace TL
open PySem PySem.Spec L2
section
variable {Γ : Gm} {W : Wd} {S S' : List Slot}
/-- some slots forgotten -/
def Wk (s s' : Slot) : Prop := s' = s ∨ ∃ m ov, s' = (m, none, ov)
theorem Fr.weaken (h : Fr Γ W S) (hw : Paired Wk S S') : Fr Γ W S' := by
  obtain ⟨fps, h1, h2, h3⟩ := h.ex
  have go : ∀ {S S' : List Slot} {fps : List (List Addr)}, Paired Wk S S' → Paired (SlotOk Γ W) S fps → ∃ fps', Paired (SlotOk Γ W) S' fps' ∧ fps'.flatten.Sublist fps.flatten := by
    intro S S' fps hw
    induction hw generalizing fps with
    | nil => intro h; cases h; exact ⟨[], .nil, .refl _⟩
    | cons r t ih =>
      intro h
      cases h with
      | @cons _ fp _ fps r2 t2 =>
        obtain ⟨f', g1, g2⟩ := ih t2
        rcases r with rfl | ⟨m, ov, rfl⟩
        · exact ⟨fp :: f', .cons r2 g1, by rw [List.flatten_cons, List.flatten_cons]; exact List.Sublist.append (List.Sublist.refl _) g2⟩
        · exact ⟨[] :: f', .cons (by cases m <;> rfl) g1, by simpa using g2.trans (List.sublist_append_right _ _)⟩
  obtain ⟨f', g1, g2⟩ := go hw h1
  exact ⟨h.fb, h.bh, f', g1, g2.nodup h2, fun a ha => h3 a (g2.subset ha)⟩
/-- some slots are lent: the world of the callee, and the way back -/
def NoSh (R : List Slot) : Prop := ∀ s ∈ R, s.1 = .sh → s.2.1 = none
theorem Fr.call {Sl Sr : List Slot} (h : Fr Γ W (Sl ++ Sr)) : ∃ Wc : Wd, Wc.F = W.F ∧ Wc.H = W.H ∧ Fr Γ Wc Sl ∧ Same W.B Wc.B ∧ (Sl = [] → Wc.B = W.H) ∧
    ∀ (W' : Wd) (R : List Slot), Wc.Le W' → NoSh R → Fr Γ W' R → ∃ W2 : Wd, W2.F = W'.F ∧ W2.H = W'.H ∧ W.Le W2 ∧ Fr Γ W2 (R ++ Sr) ∧ (Sl = [] → Same W.H W'.H) := by
  obtain ⟨fps, h1, h2, h3⟩ := h.ex
  obtain ⟨fl, fr, rfl, g1, g2⟩ := pr_split h1
  rw [List.flatten_append, List.nodup_append] at h2
  obtain ⟨n1, n2, dis⟩ := h2
  have fh := h.fb.trans h.bh
  have bl : ∀ a ∈ fl.flatten, W.B a = none := fun a ha => h3 a (by rw [List.flatten_append]; exact List.mem_append_left _ ha)
  have br : ∀ a ∈ fr.flatten, W.B a = none := fun a ha => h3 a (by rw [List.flatten_append]; exact List.mem_append_right _ ha)
  let B' : Hp := fun a => if a ∈ fl.flatten then none else W.H a
  have bB : Same W.B B' := fun a o e => by
    show (if a ∈ fl.flatten then none else W.H a) = some o
    rw [if_neg (fun hm => by rw [bl a hm] at e; cases e)]
    exact h.bh _ _ e
  have Bh : Same B' W.H := fun a o e => by
    have e' : (if a ∈ fl.flatten then none else W.H a) = some o := e
    split at e'
    · cases e'
    · exact e'
  refine ⟨⟨W.F, B', W.H⟩, rfl, rfl, ⟨h.fb.trans bB, Bh, fl, pr_keep (W := W) (W' := ⟨W.F, B', W.H⟩) (Same.refl _) bB (fun _ _ q _ => q) g1 (fun _ _ _ q => q), n1, fun a ha => if_pos ha⟩, bB, fun e => ?_, fun W' R l ns hR => ?_⟩
  · subst e
    cases g1
    funext a
    show (if a ∈ ([] : List Addr) then none else W.H a) = W.H a
    rw [if_neg (by simp)]
  · obtain ⟨fps', k1, k2, k3⟩ := hR.ex
    have inB : ∀ a o, a ∉ fl.flatten → W.H a = some o → W'.B a = some o := fun a o hn e => l.b a o (by show (if a ∈ fl.flatten then none else W.H a) = some o; rw [if_neg hn]; exact e)
    have rout : ∀ a ∈ fr.flatten, a ∉ fl.flatten := fun a ha hl => dis a hl a ha rfl
    have WB' : Same W.B W'.B := bB.trans l.b
    have keep : ∀ a ∈ fr.flatten, ∀ o, W.H a = some o → W'.H a = some o := fun a ha o e => hR.bh _ _ (inB a o (rout a ha) e)
    have ht : ∀ a o, W.H a = some o → ¬ Mut (some o) → W'.H a = some o := fun a o e nm => hR.bh _ _ (inB a o (fun hm => by
      obtain ⟨o', e', m'⟩ := pr_there g1 a hm
      rw [e] at e'; cases e'; exact nm m') e)
    have fh' := hR.fb.trans hR.bh
    have bh' := WB'.trans hR.bh
    refine ⟨⟨W'.F, join W.B W'.F, W'.H⟩, rfl, rfl, ⟨l.f, join_b, fun a o e => ?_⟩, ⟨join_f bh' fh', join_h bh' fh', fps' ++ fr, pr_app ?_ ?_, ?_, ?_⟩, fun e => ?_⟩
    · rcases l.g a o e with q | q | q
      · exact .inl q
      · refine .inr (.inl ?_)
        have q' : (if a ∈ fl.flatten then none else W.H a) = none := q
        split at q'
        · rename_i hm; exact bl a hm
        · exact h.bh.free q'
      · exact .inr (.inr q)
    · have go : ∀ {R : List Slot} {f : List (List Addr)}, NoSh R → Paired (SlotOk Γ W') R f → Paired (SlotOk Γ ⟨W'.F, join W.B W'.F, W'.H⟩) R f := by
        intro R f ns h
        induction h with
        | nil => exact .nil
        | @cons s fp _ _ r t ih =>
          refine .cons ?_ (ih fun s hs => ns s (List.mem_cons_of_mem _ hs))
          obtain ⟨m, ot, ov⟩ := s
          cases ot with
          | none => cases m <;> exact r
          | some t =>
            cases m with
            | sh => exact absurd (ns (Md.sh, some t, ov) (by simp) rfl) (by simp)
            | own n => cases ov <;> exact r
            | lent n => cases ov <;> exact r
            | obj => cases ov <;> exact r
            | ex _ _ => cases ov <;> exact r
      exact go ns k1
    · exact pr_keep (W := W) (W' := ⟨W'.F, join W.B W'.F, W'.H⟩) l.f join_b ht g2 keep
    · rw [List.flatten_append, List.nodup_append]
      refine ⟨k2, n2, fun a ha b hb z => ?_⟩
      subst z
      obtain ⟨o, e, _⟩ := pr_there g2 a hb
      have := inB a o (rout a hb) e
      rw [k3 a ha] at this; cases this
    · intro a ha
      rw [List.flatten_append] at ha
      rcases List.mem_append.mp ha with ha | ha
      · have q := k3 a ha
        exact join_none (WB'.free q) (hR.fb.free q)
      · refine join_none (br a ha) ?_
        obtain ⟨o, e, m⟩ := pr_there g2 a ha
        cases q : W'.F a with
        | none => rfl
        | some o' =>
          exfalso
          have e1 := fh' _ _ q
          rw [keep a ha o e] at e1
          cases e1
          rcases l.g a o q with z | z | z
          · have z' : W.F a = some o := z
            rw [h.fb.free (br a ha)] at z'; cases z'
          · have z' : (if a ∈ fl.flatten then none else W.H a) = none := z
            rw [if_neg (rout a ha), e] at z'; cases z'
          · exact z m
    · subst e
      cases g1
      exact fun a o e => hR.bh _ _ (inB a o (by simp) e)
end
end TL
end
section
set_option Elab.async false
set_option Elab.async false
set_option linter.all false
set_option autoImplicit false
set_option maxRecDepth 100000
set_option maxHeartbeats 4000000
namespace TL
open PySem PySem.Spec L2
section
variable {Γ : Gm} {E : XW} {ms : List Md}
def HasV (Γ : Gm) (W : Wd) (σ : St) : RC → T → V → Prop
  | .now, t, v => Rep Γ W.F W.H t v
  | .sh, t, v => Rep Γ W.F W.B t v
  | .fz, t, v => Rep Γ W.F W.F t v
  | .slot i, _, v => σ[i]? = some (some v)
  | .own _, _, _ => False
def HasA (Γ : Gm) (W : Wd) (σ : St) : List RC → List T → List V → Prop
  | [], [], [] => True
  | c :: cs, t :: ts, v :: vs => HasV Γ W σ c t v ∧ HasA Γ W σ cs ts vs
  | _, _, _ => False
def SimA (Γ : Gm) (E : XW) (ms : List Md) (p : Bool) (t : TA) (e : M (List T)) (cs : List RC) : Prop := ∀ W τ σ hs Q, FrS Γ W ms τ σ hs → Pst Γ E ms W σ hs p τ (fun W' ws τ' => ∀ vs, FrS Γ W' ms τ' σ hs → HasA Γ W' σ cs ws vs → Q vs W'.H) (e τ) → t σ W.H Q
theorem sim_nil : SimA Γ E ms true tNil (M.pure []) [] := fun W τ σ hs Q hF hp => hp W Go.refl [] hF True.intro
/-- a slot's own place stays whatever is done -/
def Stay' : RC → Bool → Prop
  | .slot _, _ => True
  | r, q => Stay r q
theorem Has.laterV {W W' : Wd} {τ τ' : Tau} {σ : St} {hs : List Slot} {r : RC} {q : Bool} {t : T} {v : V} (h : Has Γ W ms τ σ hs r t v) (g : Go q W W' τ τ') (hF : FrS Γ W' ms τ' σ hs) (hst : Stay' r q) : HasV Γ W' σ r t v := by
  cases r with
  | now => exact Rep.mono g.1.f t (g.2 hst).1 h.2
  | sh => exact Rep.mono g.1.f t g.1.b h.2
  | fz => exact Rep.mono g.1.f t g.1.f h.2
  | slot i => exact h.2.2
  | own n => exact (show False from hst).elim
theorem sim_cons {p q : Bool} {ta : TE} {tr : TA} {e : M T} {f : M (List T)} {r : RC} {cs : List RC} (h1 : SimE Γ E ms p ta e r) (h2 : SimA Γ E ms q tr f cs) (hst : Stay' r q) :
    SimA Γ E ms (p && q) (tCons ta tr) (e >>= fun x => f >>= fun xs => M.pure (x :: xs)) (r :: cs) := by
  intro W τ σ hs Q hF hp
  refine h1 W τ σ hs _ hF (Pst.bind hp fun W1 x τ1 g1 hp1 vx hx => ?_)
  refine h2 W1 τ1 σ hs _ hx.fr (Pst.bind1 hp1 fun W2 xs τ2 g2 hp2 vs hF2 hv => ?_)
  exact hp2 W2 Go.refl (vx :: vs) hF2 ⟨hx.laterV g2 hF2 hst, hv⟩
/-- a slot, to be lent -/
theorem sim_consS {q : Bool} {i : Nat} {m : Md} {tr : TA} {f : M (List T)} {cs : List RC} (hm : ms[i]? = some m) (h2 : SimA Γ E ms q tr f cs) :
    SimA Γ E ms q (tCons (tVar i) tr) (get i >>= fun x => f >>= fun xs => M.pure (x :: xs)) (.slot i :: cs) := by
  intro W τ σ hs Q hF hp
  have e : (get i >>= fun x => f >>= fun xs => M.pure (x :: xs)) τ = (get i τ).next fun x => f >>= fun xs => M.pure (x :: xs) := rfl
  rw [e] at hp
  unfold get at hp
  cases ht : τ[i]? with
  | none => rw [ht] at hp; exact hp.elim
  | some o =>
    cases o with
    | none => rw [ht] at hp; exact hp.elim
    | some t =>
      rw [ht] at hp
      obtain ⟨v, fp, hv, _, _, _, _⟩ := hF.slot hm ht
      refine ⟨v, hv, ?_⟩
      refine h2 W τ σ hs _ hF (Pst.bind1 (f := fun xs => M.pure (t :: xs)) hp fun W2 xs τ2 g2 hp2 vs hF2 hvs => ?_)
      exact hp2 W2 Go.refl (v :: vs) hF2 ⟨hv, hvs⟩
theorem HasA.len : ∀ {W : Wd} {σ : St} {cs : List RC} {ts : List T} {vs : List V}, HasA Γ W σ cs ts vs → ts.length = cs.length ∧ vs.length = cs.length
  | _, _, [], [], [], _ => ⟨rfl, rfl⟩
  | _, _, _ :: _, _ :: _, _ :: _, h => by
    obtain ⟨a, b⟩ := HasA.len h.2
    simp [a, b]
  | _, _, [], [], _ :: _, h => h.elim
  | _, _, [], _ :: _, _, h => h.elim
  | _, _, _ :: _, [], _, h => h.elim
  | _, _, _ :: _, _ :: _, [], h => h.elim
theorem HasA.now : ∀ {W : Wd} {S : List Slot} {σ : St} {cs : List RC} {ts : List T} {vs : List V}, Fr Γ W S → (∀ c ∈ cs, ∀ i, c ≠ .slot i) → HasA Γ W σ cs ts vs → RepL Γ W.F W.H ts vs
  | _, _, _, [], [], [], _, _, _ => rfl
  | W, _, _, c :: cs, t :: ts, v :: vs, f, hc, h => by
    refine ⟨v, vs, rfl, ?_, HasA.now f (fun c hm => hc c (List.mem_cons_of_mem _ hm)) h.2⟩
    have h1 := h.1
    cases c with
    | now => exact h1
    | sh => exact Rep.mono (Same.refl _) t f.bh h1
    | fz => exact Rep.mono (Same.refl _) t (f.fb.trans f.bh) h1
    | slot i => exact absurd rfl (hc (.slot i) (by simp) i)
    | own n => exact h1.elim
  | _, _, _, [], [], _ :: _, _, _, h => h.elim
  | _, _, _, [], _ :: _, _, _, _, h => h.elim
  | _, _, _, _ :: _, [], _, _, _, h => h.elim
  | _, _, _, _ :: _, _ :: _, [], _, _, h => h.elim
def mask : List Md → Tau → Tau
  | .lent _ :: ms, t :: τ => t :: mask ms τ
  | .obj :: ms, t :: τ => t :: mask ms τ
  | _ :: ms, _ :: τ => none :: mask ms τ
  | _, _ => []
theorem mask_len : ∀ {ms : List Md} {τ : Tau}, ms.length ≤ τ.length → (mask ms τ).length = ms.length
  | [], _, _ => by simp [mask]
  | _ :: _, [], h => by simp at h
  | m :: ms, t :: τ, h => by
    have := mask_len (ms := ms) (τ := τ) (by simpa using h)
    cases m <;> simp [mask, this]
/-- the promise of a def by its step m: parameters held as pms says, its answer as rr says -/
def spT (Γ : Gm) (pms : List Md) (rr : RC) (m : List T → RE T) : Sp := fun vs H Q E => ∃ W ts, W.H = H ∧ vs.length = pms.length ∧ FrS Γ W pms (ts.map some) (vs.map some) [] ∧ (match m ts with
  | .ok w τ' => ∀ W' v, W.Le W' → Has Γ W' pms (mask pms τ') (vs.map some) [] rr w v → Q v W'.H
  | .exc x τ' => ∀ W' cls d, W.Le W' → FrS Γ W' pms (mask pms τ') (vs.map some) [] → RepX Γ W' x cls d → E cls d W'.H
  | .stuck => False)
/-- an argument for a parameter -/
def Arg : RC → Md → Prop
  | .now, .sh => True
  | .sh, .sh => True
  | .fz, .sh => True
  | .fz, .own 0 => True
  | _, _ => False
def Args : List RC → List Md → Prop
  | [], [] => True
  | c :: cs, m :: ms => Arg c m ∧ Args cs ms
  | _, _ => False
/-- no value that stands now alone -/
def NoNow (cs : List RC) : Prop := ∀ c ∈ cs, c ≠ .now
theorem add_args {W Wc : Wd} {σ : St} (hF : Wc.F = W.F) (hB : Same W.B Wc.B) (fb : Same W.F W.B) : ∀ {cs : List RC} {pms : List Md} {ts : List T} {vs : List V} {A : List Slot}, (Wc.B = W.H ∨ NoNow cs) → Args cs pms → HasA Γ W σ cs ts vs → Fr Γ Wc A → Fr Γ Wc (A ++ sl pms (ts.map some) (vs.map some))
  | [], [], [], [], A, _, _, _, h => by simpa [sl] using h
  | c :: cs, m :: pms, t :: ts, v :: vs, A, hn, ha, hv, h => by
    have step : Fr Γ Wc (A ++ [(m, some t, some v)]) := by
      have a1 := ha.1
      have v1 := hv.1
      cases m with
      | sh =>
        refine h.share ?_
        cases c with
        | now =>
          rcases hn with hn | hn
          · rw [hn, hF]; exact v1
          · exact absurd rfl (hn .now (by simp))
        | sh => rw [hF]; exact Rep.mono (Same.refl _) t hB v1
        | fz => rw [hF]; exact Rep.mono (Same.refl _) t (fb.trans hB) v1
        | slot i => exact (show False from a1).elim
        | own n => exact (show False from a1).elim
      | own n =>
        cases n with
        | zero =>
          cases c with
          | fz => exact h.frozen (by rw [hF]; exact v1)
          | now => exact (show False from a1).elim
          | sh => exact (show False from a1).elim
          | slot i => exact (show False from a1).elim
          | own n => exact (show False from a1).elim
        | succ n => cases c <;> exact (show False from a1).elim
      | lent n => cases c <;> exact (show False from a1).elim
      | obj => cases c <;> exact (show False from a1).elim
      | ex _ _ => cases c <;> exact (show False from a1).elim
    have := add_args (A := A ++ [(m, some t, some v)]) hF hB fb (cs := cs) (hn.imp id fun hn c hc => hn c (List.mem_cons_of_mem _ hc)) ha.2 hv.2 step
    simpa [sl] using this
  | [], [], [], _ :: _, _, _, _, h, _ => h.elim
  | [], [], _ :: _, _, _, _, _, h, _ => h.elim
  | [], _ :: _, _, _, _, _, h, _, _ => h.elim
  | _ :: _, [], _, _, _, _, h, _, _ => h.elim
  | _ :: _, _ :: _, [], _, _, _, _, h, _ => h.elim
  | _ :: _, _ :: _, _ :: _, [], _, _, _, h, _ => h.elim
theorem mask_nosh : ∀ {pms : List Md} {τ : Tau} {σ : St}, NoSh (sl pms (mask pms τ) σ)
  | [], _, _ => by intro s hs; simp [sl] at hs
  | m :: pms, [], _ => by intro s hs; cases m <;> simp [mask, sl] at hs
  | m :: pms, t :: τ, [] => by intro s hs; cases m <;> simp [mask, sl] at hs
  | m :: pms, t :: τ, v :: σ => by
    intro s hs
    have ih := mask_nosh (pms := pms) (τ := τ) (σ := σ)
    cases m with
    | sh =>
      simp only [mask, sl, List.mem_cons] at hs
      rcases hs with rfl | hs
      · exact fun _ => rfl
      · exact ih s hs
    | own n =>
      simp only [mask, sl, List.mem_cons] at hs
      rcases hs with rfl | hs
      · exact fun _ => rfl
      · exact ih s hs
    | lent n =>
      simp only [mask, sl, List.mem_cons] at hs
      rcases hs with rfl | hs
      · intro h; cases h
      · exact ih s hs
    | obj =>
      simp only [mask, sl, List.mem_cons] at hs
      rcases hs with rfl | hs
      · intro h; cases h
      · exact ih s hs
    | ex _ _ =>
      simp only [mask, sl, List.mem_cons] at hs
      rcases hs with rfl | hs
      · exact fun _ => rfl
      · exact ih s hs
/-- what is given back by a def -/
def Back : RC → Prop
  | .fz => True
  | .own _ => True
  | _ => False
/-- a call, what is wished of its error said at the slots -/
def tCallW (sp : Sp) (E : XW) (ta : TA) : TE := fun σ H Q => tCall sp [] (E σ) ta σ H Q
theorem noX_ne {m : List T → RE T} : ∀ ts x τ', noX m ts ≠ .exc x τ' := fun ts x τ' h => by
  unfold noX at h
  split at h
  · cases h
  · rename_i hr; exact hr _ _ h
/-- the callee raises nothing, or what is wished of its error is what is wished here -/
def Wsh (m : List T → RE T) (EC E : XW) : Prop := (∀ ts x τ', m ts ≠ .exc x τ') ∨ EC = E
theorem sim_call0 {EC : XW} {pms : List Md} {rr : RC} {m : List T → RE T} {p : Bool} {ta : TA} {e : M (List T)} {cs : List RC} (ha : SimA Γ E ms p ta e cs) (hc : Args cs pms) (hr : Back rr) (hE : Wsh m EC E := by first | exact .inr rfl | exact .inl noX_ne) :
    SimE Γ E ms p (tCallW (spT Γ pms rr m) EC ta) (e >>= call0 m) rr := by
  intro W τ σ hs Q hF hp
  refine ha W τ σ hs _ hF (Pst.bind1 hp fun W1 ts τ1 g1 hp1 vs hF1 hv => ?_)
  obtain ⟨Wc, e1, e2, f0, bB, eB, back⟩ := Fr.call (Sl := []) (Sr := sl ms τ1 σ ++ hs) (by simpa using hF1.fr)
  obtain ⟨l1, l2⟩ := hv.len
  have lc : ∀ {cs : List RC} {pms : List Md}, Args cs pms → cs.length = pms.length := by
    intro cs
    induction cs with
    | nil => intro pms h; cases pms with
      | nil => rfl
      | cons _ _ => exact h.elim
    | cons c cs ih => intro pms h; cases pms with
      | nil => exact h.elim
      | cons _ _ => simp [ih h.2]
  have l3 := lc hc
  have fa := add_args (A := []) e1 bB hF1.fr.fb (.inl (eB rfl)) hc hv f0
  rw [List.append_nil]
  refine ⟨Wc, ts, e2, by omega, ⟨by simpa using fa, by simp; omega, by simp; omega⟩, ?_⟩
  cases hm : m ts with
  | stuck => simp only [call0, hm] at hp1; exact hp1
  | exc x τ' =>
    rcases hE with hE | rfl
    · exact absurd hm (hE _ _ _)
    simp only [call0, hm] at hp1
    intro W' cls d l hF' hx
    obtain ⟨W2, q1, q2, q3, q4, q5⟩ := back W' _ l (by simpa using mask_nosh) hF'.fr
    have := hp1 W2 cls d ⟨q3, fun _ => ⟨by rw [q2]; exact q5 rfl, rfl⟩⟩ ⟨(q4.perm List.perm_append_comm).pop, hF1.lt, hF1.lv⟩ (by
      obtain ⟨a, b⟩ := hx
      exact ⟨a, b.imp id fun ⟨a, fv, h1, h2, h3⟩ => ⟨a, fv, h1, by rw [q1]; exact h2, by rw [q1]; exact h3⟩⟩)
    rw [q2] at this
    exact this
  | ok w τ' =>
    simp only [call0, hm] at hp1
    intro W' v l hh
    cases rr with
    | now => exact hr.elim
    | sh => exact hr.elim
    | slot i => exact hr.elim
    | fz =>
      obtain ⟨W2, q1, q2, q3, q4, q5⟩ := back W' _ l (by simpa using mask_nosh) hh.1.fr
      have := hp1 W2 ⟨q3, fun _ => ⟨by rw [q2]; exact q5 rfl, rfl⟩⟩ v ⟨⟨(q4.perm List.perm_append_comm).pop, hF1.lt, hF1.lv⟩, by rw [q1]; exact hh.2⟩
      rw [q2] at this
      exact this
    | own n =>
      have h' : FrS Γ W' pms (mask pms τ') (vs.map some) ([] ++ [(.own n, some w, some v)]) := hh
      obtain ⟨W2, q1, q2, q3, q4, q5⟩ := back W' _ l (by
        intro s hs
        rcases List.mem_append.mp hs with hs | hs
        · exact mask_nosh s hs
        · simp at hs; subst hs; intro h; cases h) h'.fr
      have := hp1 W2 ⟨q3, fun _ => ⟨by rw [q2]; exact q5 rfl, rfl⟩⟩ v ⟨by
        refine Fr.pop (S' := sl pms (mask pms τ') (vs.map some)) (q4.perm ?_)
        rw [List.nil_append, List.append_assoc]
        refine List.perm_append_comm.trans ?_
        rw [← List.append_assoc, ← List.append_assoc (sl ms τ1 σ)]
        refine List.Perm.append_right _ ?_
        rw [List.append_assoc [_]]
        exact List.perm_append_comm, hF1.lt, hF1.lv⟩
      rw [q2] at this
      exact this
end
end TL
end
section
set_option Elab.async false
set_option Elab.async false
set_option linter.all false
set_option autoImplicit false
set_option maxRecDepth 100000
set_option maxHeartbeats 4000000
namespace TL
open PySem PySem.Spec L2
section
variable {Γ : Gm} {E : XW} {ms : List Md}
theorem Fr.conv {W : Wd} {S S' : List Slot} (h : Fr Γ W S) (hc : Paired (fun s s' => ∀ fp, SlotOk Γ W s fp → SlotOk Γ W s' fp) S S') : Fr Γ W S' := by
  obtain ⟨fps, h1, h2, h3⟩ := h.ex
  refine ⟨h.fb, h.bh, fps, ?_, h2, h3⟩
  clear h2 h3 h
  induction hc generalizing fps with
  | nil => exact h1
  | cons r t ih =>
    cases h1 with
    | cons q u => exact .cons (r _ q) (ih _ u)
theorem pr_refl {α : Type} {R : α → α → Prop} (h : ∀ a, R a a) : ∀ l : List α, Paired R l l
  | [] => .nil
  | a :: l => .cons (h a) (pr_refl h l)
/-- slots own n and lent n are alike -/
def Alike : Md → Md → Prop
  | .own n, .lent m => n = m
  | .lent n, .lent m => n = m
  | _, _ => False
theorem alike_ok {W : Wd} {m m' : Md} (h : Alike m m') {ot : Option T} {ov : Option V} {fp : List Addr} : (SlotOk Γ W (m, ot, ov) fp ↔ SlotOk Γ W (m', ot, ov) fp) := by
  cases m with
  | sh => cases m' <;> exact (show False from h).elim
  | obj => cases m' <;> exact (show False from h).elim
  | ex _ _ => cases m' <;> exact (show False from h).elim
  | own n =>
    cases m' with
    | sh => exact (show False from h).elim
    | obj => exact (show False from h).elim
    | ex _ _ => exact (show False from h).elim
    | own k => exact (show False from h).elim
    | lent k =>
      have e : n = k := h
      subst e
      cases ot with
      | none => exact Iff.rfl
      | some t => cases ov <;> exact Iff.rfl
  | lent n =>
    cases m' with
    | sh => exact (show False from h).elim
    | obj => exact (show False from h).elim
    | ex _ _ => exact (show False from h).elim
    | own k => exact (show False from h).elim
    | lent k =>
      have e : n = k := h
      subst e
      exact Iff.rfl
theorem sl_app : ∀ {ms ms' : List Md} {τ τ' : Tau} {σ σ' : St}, τ.length = ms.length → σ.length = ms.length → sl (ms ++ ms') (τ ++ τ') (σ ++ σ') = sl ms τ σ ++ sl ms' τ' σ'
  | [], _, [], _, [], _, _, _ => rfl
  | _ :: ms, ms', _ :: τ, τ', _ :: σ, σ', h1, h2 => by
    have := sl_app (ms := ms) (ms' := ms') (τ := τ) (τ' := τ') (σ := σ) (σ' := σ') (by simpa using h1) (by simpa using h2)
    simp [sl, this]
  | [], _, _ :: _, _, _, _, h, _ => by simp at h
  | [], _, _, _, _ :: _, _, _, h => by simp at h
  | _ :: _, _, [], _, _, _, h, _ => by simp at h
  | _ :: _, _, _, _, [], _, _, h => by simp at h
theorem HasA.split {W : Wd} {σ : St} : ∀ {c1 c2 : List RC} {ts : List T} {vs : List V}, HasA Γ W σ (c1 ++ c2) ts vs → ∃ t1 t2 v1 v2, ts = t1 ++ t2 ∧ vs = v1 ++ v2 ∧ HasA Γ W σ c1 t1 v1 ∧ HasA Γ W σ c2 t2 v2
  | [], _, ts, vs, h => ⟨[], ts, [], vs, rfl, rfl, True.intro, h⟩
  | c :: c1, c2, [], _, h => h.elim
  | c :: c1, c2, _ :: _, [], h => h.elim
  | c :: c1, c2, t :: ts, v :: vs, h => by
    obtain ⟨t1, t2, v1, v2, rfl, rfl, h1, h2⟩ := HasA.split (c1 := c1) (c2 := c2) h.2
    exact ⟨t :: t1, t2, v :: v1, v2, rfl, rfl, ⟨h.1, h1⟩, h2⟩
theorem args_len : ∀ {cs : List RC} {pms : List Md}, Args cs pms → cs.length = pms.length
  | [], [], _ => rfl
  | [], _ :: _, h => h.elim
  | _ :: _, [], h => h.elim
  | _ :: _, _ :: _, h => by simp [args_len h.2]
theorem mask_app : ∀ {ms ms' : List Md} {τ τ' : Tau}, τ.length = ms.length → mask (ms ++ ms') (τ ++ τ') = mask ms τ ++ mask ms' τ'
  | [], _, [], _, _ => rfl
  | m :: ms, ms', t :: τ, τ', h => by
    have := mask_app (ms := ms) (ms' := ms') (τ := τ) (τ' := τ') (by simpa using h)
    cases m <;> simp [mask, this]
  | [], _, _ :: _, _, h => by simp at h
  | _ :: _, _, [], _, h => by simp at h
theorem sim_call1 {EC : XW} (p1 p2 : List Md) (c1 c2 : List RC) (n i : Nat) {pms : List Md} {cs : List RC} {mi : Md} {rr : RC} {m : List T → RE T} {p : Bool} {ta : TA} {e : M (List T)} (ha : SimA Γ E ms p ta e cs) (ep : pms = p1 ++ .lent n :: p2) (ec : cs = c1 ++ .slot i :: c2)
    (hi : ms[i]? = some mi) (hal : Alike mi (.lent n)) (hc1 : Args c1 p1) (hc2 : Args c2 p2) (hn : NoNow (c1 ++ c2)) (hlen : ∀ ts w τ', m ts = .ok w τ' → τ'.length = pms.length) (hlen' : ∀ ts x τ', m ts = .exc x τ' → τ'.length = pms.length) (hr : Back rr) (hE : Wsh m EC E := by first | exact .inr rfl | exact .inl noX_ne) :
    SimE Γ E ms false (tCallW (spT Γ pms rr m) EC ta) (e >>= call1 m i p1.length) rr := by
  intro W τ σ hs Q hF hp
  have hp' : Pst Γ E ms W σ hs (p && false) τ (fun W' w τ' => ∀ v, Has Γ W' ms τ' σ hs rr w v → Q v W'.H) ((e >>= call1 m i p1.length) τ) := by rw [Bool.and_false]; exact hp
  refine ha W τ σ hs _ hF (Pst.bind hp' fun W1 ts τ1 g1 hp1 vs hF1 hv => ?_)
  subst ep ec
  obtain ⟨t1, t2', v1, v2', rfl, rfl, hv1, hv2'⟩ := hv.split
  obtain ⟨l1, k1⟩ := hv1.len
  have la1 := args_len hc1
  cases t2' with
  | nil => exact hv2'.elim
  | cons tj t2 =>
  cases v2' with
  | nil => exact hv2'.elim
  | cons vj v2 =>
  obtain ⟨hvj, hv2⟩ := hv2'
  have hvj : σ[i]? = some (some vj) := hvj
  obtain ⟨l2, k2⟩ := hv2.len
  have la2 := args_len hc2
  unfold call1 at hp1
  cases hti : τ1[i]? with
  | none => rw [hti] at hp1; exact hp1.elim
  | some ot =>
  cases ot with
  | none => rw [hti] at hp1; exact hp1.elim
  | some t =>
  rw [hti] at hp1
  obtain ⟨v', fp, hv', hg, hsl, _, _⟩ := hF1.slot hi hti
  rw [hvj] at hv'
  cases hv'
  have hset : (t1 ++ tj :: t2).set p1.length t = t1 ++ t :: t2 := by
    rw [List.set_append_right _ _ (by omega)]
    have : p1.length - t1.length = 0 := by omega
    rw [this]; rfl
  dsimp only at hp1
  rw [hset] at hp1
  have hls := sl_len hF1.lt hF1.lv
  obtain ⟨hilt, _⟩ := List.getElem?_eq_some_iff.mp hi
  -- the slot is taken out
  have tk := hF1.fr.take hg mi (some vj)
  have tk2 : Fr Γ W1 ([(.lent n, some t, some vj)] ++ (sl ms τ1 σ ++ hs).set i (mi, none, some vj)) := by
    refine Fr.perm (Fr.conv tk (S' := (sl ms τ1 σ ++ hs).set i (mi, none, some vj) ++ [(.lent n, some t, some vj)]) (pr_app (pr_refl (fun _ _ h => h) _) (.cons (fun fp h => (alike_ok hal).mp h) .nil))) List.perm_append_comm
  obtain ⟨Wc, e1, e2, f0, bB, _, back⟩ := Fr.call tk2
  have fa1 := add_args e1 bB hF1.fr.fb (.inr fun c hc => hn c (List.mem_append_left _ hc)) hc1 hv1 f0
  have fa2 := add_args e1 bB hF1.fr.fb (.inr fun c hc => hn c (List.mem_append_right _ hc)) hc2 hv2 fa1
  have fpar : Fr Γ Wc (sl (p1 ++ .lent n :: p2) ((t1 ++ t :: t2).map some) ((v1 ++ vj :: v2).map some)) := by
    rw [List.map_append, List.map_append, List.map_cons, List.map_cons, sl_app (by simp; omega) (by simp; omega)]
    refine fa2.perm ?_
    show ([(Md.lent n, some t, some vj)] ++ sl p1 (t1.map some) (v1.map some) ++ sl p2 (t2.map some) (v2.map some)).Perm (sl p1 (t1.map some) (v1.map some) ++ ((Md.lent n, some t, some vj) :: sl p2 (t2.map some) (v2.map some)))
    refine (List.Perm.append_right _ List.perm_append_comm).trans ?_
    rw [List.append_assoc]
    exact .refl _
  rw [List.append_nil]
  refine ⟨Wc, t1 ++ t :: t2, e2, by simp; omega, ⟨by simpa using fpar, by simp; omega, by simp; omega⟩, ?_⟩
  -- the way back
  have again : ∀ (W' : Wd) (τ' : Tau) (t' : T) (res : List Slot), Wc.Le W' → τ'.length = (p1 ++ Md.lent n :: p2).length → τ'[p1.length]? = some (some t') → NoSh res → Fr Γ W' (sl (p1 ++ .lent n :: p2) (mask (p1 ++ .lent n :: p2) τ') ((v1 ++ vj :: v2).map some) ++ res) →
      ∃ W2 : Wd, W2.F = W'.F ∧ W2.H = W'.H ∧ W1.Le W2 ∧ Fr Γ W2 (sl ms (τ1.set i (some t')) σ ++ (hs ++ res)) := by
    intro W' τ' t' res l hl ht' hns hfr
    have eτ : τ' = τ'.take p1.length ++ some t' :: τ'.drop (p1.length + 1) := by
      obtain ⟨hlt, e⟩ := List.getElem?_eq_some_iff.mp ht'
      rw [← e, List.getElem_cons_drop]
      exact (List.take_append_drop _ _).symm
    have hm : sl (p1 ++ .lent n :: p2) (mask (p1 ++ .lent n :: p2) τ') ((v1 ++ vj :: v2).map some) = sl p1 (mask p1 (τ'.take p1.length)) (v1.map some) ++ (.lent n, some t', some vj) :: sl p2 (mask p2 (τ'.drop (p1.length + 1))) (v2.map some) := by
      conv => lhs; rw [eτ]
      have hl1 : (τ'.take p1.length).length = p1.length := by rw [List.length_take, hl]; simp
      rw [mask_app hl1, List.map_append, List.map_cons, sl_app (by rw [mask_len (by omega)]) (by simp; omega)]
      rfl
    rw [hm] at hfr
    have hns2 : NoSh (sl p1 (mask p1 (τ'.take p1.length)) (v1.map some) ++ (.lent n, some t', some vj) :: sl p2 (mask p2 (τ'.drop (p1.length + 1))) (v2.map some) ++ res) := by
      rw [← hm]
      intro s hs
      rcases List.mem_append.mp hs with hs | hs
      · exact mask_nosh s hs
      · exact hns s hs
    obtain ⟨W2, q1, q2, q3, q4, _⟩ := back W' _ l hns2 hfr
    refine ⟨W2, q1, q2, q3, ?_⟩
    generalize sl p1 (mask p1 (τ'.take p1.length)) (v1.map some) = A at q4
    generalize sl p2 (mask p2 (τ'.drop (p1.length + 1))) (v2.map some) = B at q4
    have q5 : Fr Γ W2 ((sl ms τ1 σ ++ hs).set i (mi, none, some vj) ++ res ++ [(.lent n, some t', some vj)]) := by
      refine Fr.pop (S' := A ++ B) (q4.perm ?_)
      generalize (sl ms τ1 σ ++ hs).set i (mi, none, some vj) = C
      generalize (Md.lent n, some t', some vj) = s
      have h1 : (A ++ s :: B).Perm (s :: (A ++ B)) := List.perm_middle
      have h2 : (A ++ s :: B ++ res ++ C).Perm (s :: (A ++ B) ++ res ++ C) := List.Perm.append_right _ (List.Perm.append_right _ h1)
      refine h2.trans ?_
      have h3 : (s :: (A ++ B) ++ res ++ C).Perm (C ++ (s :: (A ++ B) ++ res)) := List.perm_append_comm
      refine h3.trans ?_
      rw [List.append_assoc C res, List.append_assoc C]
      refine List.Perm.append_left _ ?_
      have h4 : (s :: (A ++ B) ++ res).Perm (res ++ s :: (A ++ B)) := List.perm_append_comm
      refine h4.trans ?_
      rw [List.append_assoc]
      exact .refl _
    have q6 := q5.put i
    rw [List.set_append_left _ _ (by rw [List.length_set, List.length_append]; omega), List.set_set] at q6
    rw [List.set_append_left _ _ (by omega)] at q6
    have q7 : Fr Γ W2 (sl ms (τ1.set i (some t')) σ ++ hs ++ res) := by
      have e3 : sl ms (τ1.set i (some t')) σ = (sl ms τ1 σ).set i (mi, some t', some vj) := by
        rw [sl_set _ _ hi, set_self hvj]
      rw [e3]
      refine Fr.conv q6 (pr_app (pr_app ?_ (pr_refl (fun _ _ h => h) _)) (pr_refl (fun _ _ h => h) _))
      generalize sl ms τ1 σ = S
      have gen : ∀ (S : List Slot) (i : Nat), Paired (fun s s' => ∀ fp, SlotOk Γ W2 s fp → SlotOk Γ W2 s' fp) (S.set i (.lent n, some t', some vj)) (S.set i (mi, some t', some vj)) := by
        intro S
        induction S with
        | nil => intro i; exact .nil
        | cons a S ih =>
          intro i
          cases i with
          | zero => exact .cons (fun fp h => (alike_ok hal).mpr h) (pr_refl (fun _ _ h => h) _)
          | succ i => exact .cons (fun _ h => h) (ih i)
      exact gen S i
    rw [List.append_assoc] at q7
    exact q7
  cases hm : m (t1 ++ t :: t2) with
  | stuck => simp only [hm] at hp1; exact hp1
  | exc x τ' =>
    rcases hE with hE | rfl
    · exact absurd hm (hE _ _ _)
    simp only [hm] at hp1
    cases htj : τ'[p1.length]? with
    | none => rw [htj] at hp1; exact hp1.elim
    | some ot =>
    cases ot with
    | none => rw [htj] at hp1; exact hp1.elim
    | some t' =>
    rw [htj] at hp1
    intro W' cls d l hF' hx
    obtain ⟨W2, q1, q2, q3, q4⟩ := again W' τ' t' [] l (hlen' _ _ _ hm) htj (by intro s hs; simp at hs) hF'.fr
    have := hp1 W2 cls d ⟨q3, fun z => nomatch z⟩ ⟨by simpa using q4, by rw [List.length_set]; exact hF1.lt, hF1.lv⟩ (by
      obtain ⟨a, b⟩ := hx
      exact ⟨a, b.imp id fun ⟨a, fv, h1, h2, h3⟩ => ⟨a, fv, h1, by rw [q1]; exact h2, by rw [q1]; exact h3⟩⟩)
    rw [q2] at this
    exact this
  | ok w τ' =>
    simp only [hm] at hp1
    cases htj : τ'[p1.length]? with
    | none => rw [htj] at hp1; exact hp1.elim
    | some ot =>
    cases ot with
    | none => rw [htj] at hp1; exact hp1.elim
    | some t' =>
    rw [htj] at hp1
    intro W' v l hh
    cases rr with
    | now => exact hr.elim
    | sh => exact hr.elim
    | slot i => exact hr.elim
    | fz =>
      obtain ⟨W2, q1, q2, q3, q4⟩ := again W' τ' t' [] l (hlen _ _ _ hm) htj (by intro s hs; simp at hs) hh.1.fr
      have := hp1 W2 ⟨q3, fun z => nomatch z⟩ v ⟨⟨by simpa using q4, by rw [List.length_set]; exact hF1.lt, hF1.lv⟩, by rw [q1]; exact hh.2⟩
      rw [q2] at this
      exact this
    | own k =>
      have h' : FrS Γ W' (p1 ++ .lent n :: p2) (mask (p1 ++ .lent n :: p2) τ') ((v1 ++ vj :: v2).map some) ([] ++ [(.own k, some w, some v)]) := hh
      obtain ⟨W2, q1, q2, q3, q4⟩ := again W' τ' t' [(.own k, some w, some v)] l (hlen _ _ _ hm) htj (by intro s hs; simp at hs; subst hs; intro h; cases h) h'.fr
      have := hp1 W2 ⟨q3, fun z => nomatch z⟩ v ⟨q4, by rw [List.length_set]; exact hF1.lt, hF1.lv⟩
      rw [q2] at this
      exact this
end
end TL
end
section
set_option Elab.async false
set_option Elab.async false
set_option linter.all false
set_option autoImplicit false
set_option maxRecDepth 100000
set_option maxHeartbeats 4000000
namespace TL
open PySem PySem.Spec L2
section
variable {Γ : Gm} {E : XW} {ms : List Md}
theorem wk_mask : ∀ {pms : List Md} {τ : Tau} {σ σ' : St}, τ.length = pms.length → σ.length = pms.length → σ'.length = pms.length → (∀ (i : Nat) (m : Md), (pms[i]? = some m ∧ m.kept = true) → σ[i]? = σ'[i]?) → Paired Wk (sl pms τ σ) (sl pms (mask pms τ) σ')
  | [], _, _, _, _, _, _, _ => by simp only [sl]; exact .nil
  | _ :: _, [], _, _, h, _, _, _ => by simp at h
  | _ :: _, _ :: _, [], _, _, h, _, _ => by simp at h
  | _ :: _, _ :: _, _ :: _, [], _, _, h, _ => by simp at h
  | m :: pms, t :: τ, v :: σ, v' :: σ', h1, h2, h3, hk => by
    have ih := wk_mask (pms := pms) (τ := τ) (σ := σ) (σ' := σ') (by simpa using h1) (by simpa using h2) (by simpa using h3) fun i n h => by simpa using hk (i + 1) n (by simpa using h)
    cases m with
    | sh => exact .cons (.inr ⟨_, _, rfl⟩) ih
    | own n => exact .cons (.inr ⟨_, _, rfl⟩) ih
    | ex _ _ => exact .cons (.inr ⟨_, _, rfl⟩) ih
    | lent n =>
      have e : v = v' := by simpa using hk 0 (.lent n) ⟨rfl, rfl⟩
      subst e
      exact .cons (.inl rfl) ih
    | obj =>
      have e : v = v' := by simpa using hk 0 .obj ⟨rfl, rfl⟩
      subst e
      exact .cons (.inl rfl) ih
/-- at a def's end: the parameters that were lent are left, with what is given back -/
theorem leave {W : Wd} {pms lms : List Md} {τ : Tau} {σ : St} {vs : List V} {R : List Slot} (hF : Fr Γ W (sl (pms ++ lms) τ σ ++ R)) (lt : τ.length = (pms ++ lms).length) (lv : σ.length = (pms ++ lms).length) (hl : vs.length = pms.length) (hk : ∀ (i : Nat) (m : Md), (pms[i]? = some m ∧ m.kept = true) → σ[i]? = (vs.map some)[i]?) :
    Fr Γ W (sl pms (mask pms (τ.take pms.length)) (vs.map some) ++ R) := by
  rw [List.length_append] at lt lv
  have e1 : τ = τ.take pms.length ++ τ.drop pms.length := (List.take_append_drop _ _).symm
  have e2 : σ = σ.take pms.length ++ σ.drop pms.length := (List.take_append_drop _ _).symm
  have h1 : (τ.take pms.length).length = pms.length := by rw [List.length_take]; omega
  have h2 : (σ.take pms.length).length = pms.length := by rw [List.length_take]; omega
  rw [e1, e2, sl_app h1 h2] at hF
  have h3 : Fr Γ W (sl pms (τ.take pms.length) (σ.take pms.length) ++ R) := by
    refine Fr.pop (S' := sl lms (τ.drop pms.length) (σ.drop pms.length)) (hF.perm ?_)
    rw [List.append_assoc, List.append_assoc]
    exact List.Perm.append_left _ List.perm_append_comm
  refine h3.weaken (pr_app (wk_mask h1 h2 (by simpa using hl) fun i n h => ?_) (pr_refl (fun _ => .inl rfl) _))
  obtain ⟨hi, _⟩ := List.getElem?_eq_some_iff.mp h.1
  rw [← hk i n h, List.getElem?_take_of_lt hi]
theorem Fr.scal {W : Wd} {S : List Slot} (h : Fr Γ W S) {n : Nat} {t : T} {v : V} (r : RepO Γ W.F W.H n t v []) : Fr Γ W (S ++ [(.own n, some t, some v)]) := by
  obtain ⟨fps, h1, h2, h3⟩ := h.ex
  exact ⟨h.fb, h.bh, fps ++ [[]], pr_app h1 (.cons r .nil), by simpa using h2, fun a ha => h3 a (by simpa using ha)⟩
theorem repO_non {F H : Hp} {n : Nat} : RepO Γ F H n .non .non [] := by
  cases n with
  | zero => rw [RepO_zero]; exact ⟨rfl, rfl⟩
  | succ n => exact ⟨rfl, rfl⟩
/-- the frame at a def's entry -/
theorem enter {W : Wd} {pms lms : List Md} {ts : List T} {vs : List V} (hF : FrS Γ W pms (ts.map some) (vs.map some) []) : FrS Γ W (pms ++ lms) (ts.map some ++ List.replicate lms.length none) (vs.map some ++ List.replicate lms.length none) [] := by
  refine ⟨?_, by rw [List.length_append, hF.lt, List.length_append, List.length_replicate], by rw [List.length_append, hF.lv, List.length_append, List.length_replicate]⟩
  rw [sl_app hF.lt hF.lv, List.append_nil]
  have hf : Fr Γ W (sl pms (ts.map some) (vs.map some)) := by simpa using hF.fr
  have go : ∀ (lms : List Md) (A : List Slot), Fr Γ W A → Fr Γ W (A ++ sl lms (List.replicate lms.length none) (List.replicate lms.length none)) := by
    intro lms
    induction lms with
    | nil => intro A h; simpa [sl] using h
    | cons m lms ih =>
      intro A h
      have := ih (A ++ [(m, none, none)]) (h.blank m none)
      simpa [sl, List.replicate_succ] using this
  exact go lms _ hf
/-- a reading that does what s does, entered as a def's body is -/
theorem body_sim {pms lms : List Md} {rr : RC} {t : TS} {s : M Ctl} (h : SimS Γ E0 (pms ++ lms) rr t s) (hr : Back rr) {N : List Str} (hN : N.length = (pms ++ lms).length) {vs : List V} {H : Hp} {Q : VK} {E : XK}
    (hsp : spT Γ pms rr (noX (runF s pms.length N.length)) vs H Q E) : t { nx := fun _ H' => Q .non H', rt := Q } (L2.start N vs) H := by
  obtain ⟨W, ts, rfl, hl, hF, hp⟩ := hsp
  have hlt : ts.length = pms.length := by simpa using hF.lt
  have es : L2.start N vs = vs.map some ++ List.replicate lms.length none := by
    unfold L2.start
    rw [hN, List.length_append, hl]
    congr 2
    omega
  have et : ts.map some ++ List.replicate (N.length - pms.length) none = ts.map some ++ List.replicate lms.length (none : Option T) := by
    rw [hN, List.length_append]
    congr 2
    omega
  rw [es]
  have hE := enter (lms := lms) hF
  refine h W _ _ [] _ hE ?_
  unfold noX runF at hp
  rw [et] at hp
  have kk : ∀ {W' : Wd} {σ' : St}, Nx (pms ++ lms) W (vs.map some ++ List.replicate lms.length none) W' σ' → ∀ (i : Nat) (m : Md), (pms[i]? = some m ∧ m.kept = true) → σ'[i]? = (vs.map some)[i]? := fun nx i n hi => by
    obtain ⟨hlt, _⟩ := List.getElem?_eq_some_iff.mp hi.1
    rw [nx.kl i n ⟨by rw [List.getElem?_append_left hlt]; exact hi.1, hi.2⟩, List.getElem?_append_left (by simp; omega)]
  cases hs : s (ts.map some ++ List.replicate lms.length none) with
  | stuck => rw [hs] at hp; exact hp
  | exc x τ' => rw [hs] at hp; exact hp.elim
  | ok c τ' =>
    rw [hs] at hp
    cases c with
    | bk => exact hp.elim
    | ct => exact hp.elim
    | nx =>
      intro W' σ' nx hF'
      have hf : Fr Γ W' (sl (pms ++ lms) τ' σ') := by simpa using hF'.fr
      have lm : (mask pms (τ'.take pms.length)).length = pms.length := mask_len (by rw [List.length_take, hF'.lt, List.length_append]; omega)
      dsimp only at hp
      rw [pad_take (by rw [hF'.lt, List.length_append]; omega)] at hp
      refine hp W' .non nx.le ?_
      cases rr with
      | now => exact hr.elim
      | sh => exact hr.elim
      | slot i => exact hr.elim
      | fz => exact ⟨⟨leave (R := []) (by simpa using hf) hF'.lt hF'.lv hl (kk nx), lm, by simpa using hl⟩, rfl⟩
      | own n => exact ⟨leave (R := [] ++ [(.own n, some .non, some .non)]) (by simpa using hf.scal repO_non) hF'.lt hF'.lv hl (kk nx), lm, by simpa using hl⟩
    | rt w =>
      intro W' σ' v nx hh
      have hF' := hh.fr
      have lm : (mask pms (τ'.take pms.length)).length = pms.length := mask_len (by rw [List.length_take, hF'.lt, List.length_append]; omega)
      dsimp only at hp
      rw [pad_take (by rw [hF'.lt, List.length_append]; omega)] at hp
      refine hp W' v nx.le ?_
      cases rr with
      | now => exact hr.elim
      | sh => exact hr.elim
      | slot i => exact hr.elim
      | fz => exact ⟨⟨leave (R := []) hF'.fr hF'.lt hF'.lv hl (kk nx), lm, by simpa using hl⟩, hh.2⟩
      | own n =>
        have h' : FrS Γ W' (pms ++ lms) τ' σ' ([] ++ [(.own n, some w, some v)]) := hh
        exact ⟨leave h'.fr hF'.lt hF'.lv hl (kk nx), lm, by simpa using hl⟩
end
end TL
end
section
set_option Elab.async false
set_option Elab.async false
set_option linter.all false
set_option autoImplicit false
set_option maxRecDepth 100000
set_option maxHeartbeats 4000000
namespace TL
open PySem PySem.Spec L2
/-- v is the key k in H -/
def Ky (Γ : Gm) (H : Hp) (k : NestedKey) (v : V) : Prop := k.depth ≤ 8 ∧ ∃ (F : Hp) (t : T), keyOf t = some k ∧ Rep Γ F H t v
section
variable {Γ : Gm} {X : Cx} {pins : List (Addr × Obj)} {σ : St} {H : Hp} {s : Shared}
mutual
theorem nested_of {F : Hp} (I : Inv X pins σ H s) (hK : Γ.K = X.K) : ∀ (t : T) {k : NestedKey} {v : V} {u : Value}, keyOf t = some k → Rep Γ F H t v → L2.RelV v u → NestedIs s.heap k u
  | .non, k, v, u, hk, hr, r => by
    cases hk; cases hr; cases r; exact .none
  | .bl b, k, v, u, hk, hr, r => by
    cases hk; cases hr; cases r; exact .bool rfl
  | .int i, k, v, u, hk, hr, r => by
    cases hk; cases hr; obtain ⟨t, rfl⟩ := r; exact .int i t
  | .str x, k, v, u, hk, hr, r => by
    cases hk; cases hr; obtain ⟨t, rfl⟩ := r; exact .text x t
  | .tup xs, k, v, u, hk, hr, r => by
    obtain ⟨a, vs, rfl, hs, hl⟩ := hr
    cases hks : keysOf xs with
    | none => simp only [keyOf, hks] at hk; cases hk
    | some ks =>
      simp only [keyOf, hks] at hk
      cases hk
      cases r
      obtain ⟨its, rv, ⟨o, ho, hc, n, hd⟩, _⟩ := I.tuple (by rw [← hK]; exact hs)
      exact .tup ho hc hd (by simpa using nested_all I hK xs hks hl rv)
  | .lst _, _, _, _, hk, _, _ => by cases hk
  | .dct _, _, _, _, hk, _, _ => by cases hk
  | .set _, _, _, _, hk, _, _ => by cases hk
  | .ins _ _, _, _, _, hk, _, _ => by cases hk
theorem nested_all {F : Hp} (I : Inv X pins σ H s) (hK : Γ.K = X.K) : ∀ (ts : List T) {ks : List NestedKey} {vs : List V} {us : List Value}, keysOf ts = some ks → RepL Γ F H ts vs → Vals vs us → NestedAll s.heap ks us
  | [], ks, vs, us, hk, hr, rv => by
    cases hk; cases hr; cases rv; exact .nil
  | t :: ts, ks, vs, us, hk, hr, rv => by
    obtain ⟨v, r, rfl, h1, h2⟩ := hr
    cases rv with
    | cons q rv =>
      cases h3 : keyOf t with
      | none => simp only [keysOf, h3] at hk; cases hk
      | some k =>
        cases h4 : keysOf ts with
        | none => simp only [keysOf, h3, h4] at hk; cases hk
        | some ks' =>
          simp only [keysOf, h3, h4] at hk
          cases hk
          exact .cons (nested_of I hK t h3 h1 q) (nested_all I hK ts h4 h2 rv)
end
theorem Ky.is {k : NestedKey} {v : V} {u : Value} (I : Inv X pins σ H s) (hK : Γ.K = X.K) (h : Ky Γ H k v) (r : L2.RelV v u) : NestedIs s.heap k u := by
  obtain ⟨_, F, t, h1, h2⟩ := h
  exact nested_of I hK t h1 h2 r
theorem Ky.mono {H' : Hp} {k : NestedKey} {v : V} (e : Same H H') (h : Ky Γ H k v) : Ky Γ H' k v := by
  obtain ⟨h0, F, t, h1, h2⟩ := h
  exact ⟨h0, F, t, h1, Rep.mono (Same.refl _) t e h2⟩
theorem Ky.tup {ks : List NestedKey} {v : V} (h : Ky Γ H (.tup ks) v) : ∃ a, v = .ref a := by
  obtain ⟨_, F, t, h1, h2⟩ := h
  cases t with
  | tup xs => obtain ⟨a, vs, e, _⟩ := h2; exact ⟨a, e⟩
  | non => cases h1
  | bl b => cases h1
  | int b => cases h1
  | str b => cases h1
  | lst b => cases h1
  | dct b => cases h1
  | set b => cases h1
  | ins b c => cases h1
theorem Ky.text {x : Str} {v : V} (h : Ky Γ H (.text x) v) : v = .str x := by
  obtain ⟨_, F, t, h1, h2⟩ := h
  cases t with
  | tup xs => simp only [keyOf] at h1; cases h3 : keysOf xs <;> rw [h3] at h1 <;> cases h1
  | non => cases h1
  | bl b => cases h1
  | int b => cases h1
  | str b => cases h1; exact h2
  | lst b => cases h1
  | dct b => cases h1
  | set b => cases h1
  | ins b c => cases h1
theorem pr_map {α β γ : Type} {R : α → β → Prop} {f : α → γ} {g : β → γ} {l : List α} {m : List β} (h : Paired R l m) (e : ∀ a b, R a b → f a = g b) : l.map f = m.map g := by
  induction h with
  | nil => rfl
  | cons r t ih => rw [List.map_cons, List.map_cons, ih, e _ _ r]
/-- keys of one kind: all tuples, or all texts -/
def kind : NestedKey → Nat
  | .tup _ => 0
  | .text _ => 1
  | .num _ => 2
  | .none => 3
def valE (es : List Ent) (k : NestedKey) : Option V := (es.find? fun e => decide (e.1 = k)).map (·.2.2)
def putE (es : List Ent) (k : NestedKey) (kv v : V) : List Ent := if (valE es k).isSome = true then es.map (fun e => if e.1 = k then (e.1, e.2.1, v) else e) else es ++ [(k, kv, v)]
/-- the dict at a may be asked for k, by y -/
structure Asks (Γ : Gm) (H : Hp) (a : Addr) (es : List Ent) (ep : Nat) (k : NestedKey) (y : V) : Prop where
  at_ : H a = some (DX Γ.w a es ep)
  nd : (es.map (·.1)).Nodup
  ks : ∀ e ∈ es, Ky Γ H e.1 e.2.1 ∧ kind e.1 = kind k
  ky : Ky Γ H k y
  kd : kind k ≤ 1
theorem dx_of {a : Addr} {es : List Ent} {ep : Nat} {w : World} (I : Inv X pins σ H s) (h : H a = some (DX w a es ep)) : (a == sysModules) = false ∧ es.length ≤ sizeLine ∧ ∃ (o : Obj) (xs : Array DictEntry), s.heap.get? a = some o ∧ o.ExactDict ∧ o.data = .dict xs ep ∧
    Paired (fun (e : Ent) (q : DictEntry) => q.hash = e.1.hash w ∧ L2.RelV e.2.1 q.key ∧ L2.RelV e.2.2 q.val) es xs.toList := (I.hok a _ h).1
/-- the two ways a dict is asked -/
theorem Asks.two {a : Addr} {es : List Ent} {ep : Nat} {k : NestedKey} {y : V} (I : Inv X pins σ H s) (hK : Γ.K = X.K) (hw : Γ.w = X.w) (q : Asks Γ H a es ep k y) :
    (∃ (ks : List NestedKey) (b : Addr) (xs : List (NestedKey × Addr × Value)), k = .tup ks ∧ y = .ref b ∧ (nestedKind X.prog X.w).is s.heap k b ∧ s.heap.DictOfH (nestedKind X.prog X.w) a xs ∧ Paired (fun (e : Ent) (x : NestedKey × Addr × Value) => x.1 = e.1 ∧ e.2.1 = .ref x.2.1 ∧ L2.RelV e.2.2 x.2.2) es xs) ∨
    (∃ (x : Str) (vs : List (Str × Value)), k = .text x ∧ y = .str x ∧ s.heap.DictOf (strKind X.prog X.w) a vs ∧ Paired (fun (e : Ent) (z : Str × Value) => e.1 = .text z.1 ∧ e.2.1 = .str z.1 ∧ L2.RelV e.2.2 z.2) es vs) := by
  obtain ⟨hd, hl, o, raw, ho, hx, hdt, pr⟩ := dx_of I q.at_
  cases k with
  | num i => exact absurd q.kd (by show ¬ 2 ≤ 1; decide)
  | none => exact absurd q.kd (by show ¬ 3 ≤ 1; decide)
  | tup ks =>
    left
    obtain ⟨b, rfl⟩ := q.ky.tup
    have go : ∀ {es : List Ent} {raw : List DictEntry}, (∀ e ∈ es, Ky Γ H e.1 e.2.1 ∧ kind e.1 = kind (.tup ks)) → Paired (fun (e : Ent) (q : DictEntry) => q.hash = e.1.hash Γ.w ∧ L2.RelV e.2.1 q.key ∧ L2.RelV e.2.2 q.val) es raw →
        ∃ xs : List (NestedKey × Addr × Value), raw = xs.map (entryOfKey (nestedKind X.prog X.w)) ∧ (∀ x ∈ xs, (nestedKind X.prog X.w).is s.heap x.1 x.2.1) ∧ Paired (fun (e : Ent) (x : NestedKey × Addr × Value) => x.1 = e.1 ∧ e.2.1 = .ref x.2.1 ∧ L2.RelV e.2.2 x.2.2) es xs := by
      intro es raw hks hp
      induction hp with
      | nil => exact ⟨[], rfl, (fun x hx => by cases hx), .nil⟩
      | @cons e r es raw h t ih =>
        obtain ⟨xs, e1, e2, e3⟩ := ih fun e he => hks e (List.mem_cons_of_mem _ he)
        obtain ⟨ke, kk⟩ := hks e (by simp)
        obtain ⟨k, kv, v⟩ := e
        cases k with
        | num i => exact absurd kk (by show ¬ (2 = 0); decide)
        | none => exact absurd kk (by show ¬ (3 = 0); decide)
        | text i => exact absurd kk (by show ¬ (1 = 0); decide)
        | tup ls =>
          obtain ⟨c, hc⟩ := ke.tup
          have hc : kv = .ref c := hc
          subst hc
          obtain ⟨h1, h2, h3⟩ := h
          have h2 : r.key = .ref c := h2
          refine ⟨(.tup ls, c, r.val) :: xs, ?_, ?_, .cons ⟨rfl, rfl, h3⟩ e3⟩
          · rw [List.map_cons, ← e1]
            congr 1
            obtain ⟨rh, rk, rv⟩ := r
            simp only [entryOfKey] at h1 h2 ⊢
            rw [h2, h1, hw]; rfl
          · intro x hx
            rcases List.mem_cons.mp hx with rfl | hx
            · exact ⟨ke.is I hK rfl, ke.1⟩
            · exact e2 x hx
    obtain ⟨xs, e1, e2, e3⟩ := go q.ks pr
    refine ⟨ks, b, xs, rfl, rfl, ⟨q.ky.is I hK rfl, q.ky.1⟩, ⟨o, raw, ep, ho, hx, hdt, e1, e2, ?_⟩, e3⟩
    rw [← pr_map (f := fun e : Ent => e.1) (g := fun x : NestedKey × Addr × Value => x.1) e3 fun a b h => h.1.symm]
    exact q.nd
  | text x =>
    right
    have hy := q.ky.text
    subst hy
    have go : ∀ {es : List Ent} {raw : List DictEntry}, (∀ e ∈ es, Ky Γ H e.1 e.2.1 ∧ kind e.1 = kind (.text x)) → Paired (fun (e : Ent) (q : DictEntry) => q.hash = e.1.hash Γ.w ∧ L2.RelV e.2.1 q.key ∧ L2.RelV e.2.2 q.val) es raw →
        ∃ vs : List (Str × Value), (∀ r ∈ raw, ∃ k, (strKind X.prog X.w).is k r.key = true ∧ r.hash = (strKind X.prog X.w).hash k) ∧ Pairs (strKind X.prog X.w) raw vs ∧ Paired (fun (e : Ent) (z : Str × Value) => e.1 = .text z.1 ∧ e.2.1 = .str z.1 ∧ L2.RelV e.2.2 z.2) es vs := by
      intro es raw hks hp
      induction hp with
      | nil => exact ⟨[], (fun r hr => by cases hr), .nil, .nil⟩
      | @cons e r es raw h t ih =>
        obtain ⟨vs, e1, e2, e3⟩ := ih fun e he => hks e (List.mem_cons_of_mem _ he)
        obtain ⟨ke, kk⟩ := hks e (by simp)
        obtain ⟨k, kv, v⟩ := e
        cases k with
        | num i => exact absurd kk (by show ¬ (2 = 1); decide)
        | none => exact absurd kk (by show ¬ (3 = 1); decide)
        | tup i => exact absurd kk (by show ¬ (0 = 1); decide)
        | text z =>
          have hc : kv = .str z := ke.text
          subst hc
          obtain ⟨h1, ⟨tk, h2⟩, h3⟩ := h
          have is : (strKind X.prog X.w).is z r.key = true := by rw [h2]; show Value.isStrOf z (.str z tk) = true; simp [Value.isStrOf]
          refine ⟨(z, r.val) :: vs, ?_, .cons is rfl e2, .cons ⟨rfl, rfl, h3⟩ e3⟩
          intro r' hr'
          rcases List.mem_cons.mp hr' with rfl | hr'
          · exact ⟨z, is, by rw [h1, hw]; rfl⟩
          · exact e1 r' hr'
    obtain ⟨vs, e1, e2, e3⟩ := go q.ks pr
    refine ⟨x, vs, rfl, rfl, ⟨o, raw, ep, ho, hx, hdt, fun r hr => e1 r (by simpa using hr), e2, ?_⟩, e3⟩
    have nd := q.nd
    rw [pr_map (f := fun e : Ent => e.1) (g := fun z : Str × Value => NestedKey.text z.1) e3 fun a b h => h.1] at nd
    rw [List.Nodup, List.pairwise_map] at nd ⊢
    exact nd.imp fun h e => h (by rw [e])
end
end TL
end
section
set_option Elab.async false
set_option Elab.async false
set_option linter.all false
set_option autoImplicit false
set_option maxRecDepth 100000
set_option maxHeartbeats 4000000
namespace TL
open PySem PySem.Spec L2
abbrev RelE (w : World) : Ent → DictEntry → Prop := fun e q => q.hash = e.1.hash w ∧ L2.RelV e.2.1 q.key ∧ L2.RelV e.2.2 q.val
abbrev RelT : Ent → NestedKey × Addr × Value → Prop := fun e x => x.1 = e.1 ∧ e.2.1 = .ref x.2.1 ∧ L2.RelV e.2.2 x.2.2
abbrev RelS : Ent → Str × Value → Prop := fun e z => e.1 = .text z.1 ∧ e.2.1 = .str z.1 ∧ L2.RelV e.2.2 z.2
theorem valE_pos {e : Ent} {es : List Ent} {k : NestedKey} (h : e.1 = k) : valE (e :: es) k = some e.2.2 := by simp [valE, List.find?_cons, h]
theorem valE_neg {e : Ent} {es : List Ent} {k : NestedKey} (h : ¬ e.1 = k) : valE (e :: es) k = valE es k := by simp [valE, List.find?_cons, h]
theorem relT_val {es : List Ent} {xs : List (NestedKey × Addr × Value)} (h : Paired RelT es xs) (k : NestedKey) : L2.RelO (valE es k) ((atKey xs k).map (·.2)) := by
  induction h with
  | nil => exact True.intro
  | @cons e x es xs r t ih =>
    obtain ⟨h1, _, h2⟩ := r
    by_cases q : e.1 = k
    · have b : atKey (x :: xs) k = some x.2 := by simp [atKey, List.find?_cons, h1.trans q]
      rw [valE_pos q, b]; exact h2
    · have q' : ¬ x.1 = k := fun z => q (h1.symm.trans z)
      have b : atKey (x :: xs) k = atKey xs k := by simp [atKey, List.find?_cons, q']
      rw [valE_neg q, b]; exact ih
theorem relS_val {es : List Ent} {vs : List (Str × Value)} (h : Paired RelS es vs) (x : Str) : L2.RelO (valE es (.text x)) (valueAt vs x) := by
  induction h with
  | nil => exact True.intro
  | @cons e z es vs r t ih =>
    obtain ⟨h1, _, h2⟩ := r
    by_cases q : z.1 = x
    · have b : valueAt (z :: vs) x = some z.2 := by simp [valueAt, List.find?_cons, q]
      rw [valE_pos (h1.trans (by rw [q])), b]; exact h2
    · have b : valueAt (z :: vs) x = valueAt vs x := by simp [valueAt, List.find?_cons, q]
      rw [valE_neg (fun e => q (by rw [h1] at e; injection e)), b]; exact ih
theorem relT_put {es : List Ent} {xs : List (NestedKey × Addr × Value)} (h : Paired RelT es xs) {k : NestedKey} {b : Addr} {v : V} {r : Value} (rv : L2.RelV v r) : Paired RelT (putE es k (.ref b) v) (storedH xs k b r) := by
  have hv := (relT_val h k).isSome_eq
  rw [Option.isSome_map] at hv
  unfold putE storedH
  rw [hv]
  by_cases q : (atKey xs k).isSome = true
  · rw [if_pos q, if_pos q]
    clear hv q
    induction h with
    | nil => exact .nil
    | @cons e x es xs r0 t ih =>
      rw [List.map_cons, List.map_cons]
      refine .cons ?_ ih
      obtain ⟨h1, h2, h3⟩ := r0
      unfold putAt
      by_cases z : e.1 = k
      · rw [if_pos z, if_pos (h1.trans z)]; exact ⟨h1, h2, rv⟩
      · rw [if_neg z, if_neg (fun y => z (h1.symm.trans y))]; exact ⟨h1, h2, h3⟩
  · rw [if_neg q, if_neg q]
    exact Paired.snoc h ⟨rfl, rfl, rv⟩
theorem relS_put {es : List Ent} {vs : List (Str × Value)} (h : Paired RelS es vs) {x : Str} {v : V} {r : Value} (rv : L2.RelV v r) : Paired RelS (putE es (.text x) (.str x) v) (stored vs x r) := by
  have hv := (relS_val h x).isSome_eq
  have ha : (valueAt vs x).isSome = vs.any (fun kv => kv.1 = x) := by
    clear hv h
    induction vs with
    | nil => rfl
    | cons z vs ih =>
      by_cases q : z.1 = x
      · simp [valueAt, List.find?_cons, q]
      · simp [valueAt, List.find?_cons, q] at ih ⊢; exact ih
  unfold putE stored
  rw [hv, ha]
  by_cases q : (vs.any (fun kv => decide (kv.1 = x))) = true
  · rw [if_pos q, if_pos q]
    clear hv ha q
    induction h with
    | nil => exact .nil
    | @cons e z es vs r0 t ih =>
      rw [List.map_cons, List.map_cons]
      refine .cons ?_ ih
      obtain ⟨h1, h2, h3⟩ := r0
      by_cases y : z.1 = x
      · rw [if_pos y, if_pos (h1.trans (by rw [y]))]; exact ⟨h1, h2, rv⟩
      · rw [if_neg y, if_neg (fun u => y (by rw [h1] at u; injection u))]; exact ⟨h1, h2, h3⟩
  · rw [if_neg q, if_neg q]
    exact Paired.snoc h ⟨rfl, rfl, rv⟩
section
variable {Γ : Gm} {X : Cx} {pins : List (Addr × Obj)} {σ : St} {H : Hp} {s : Shared} {a : Addr} {es : List Ent} {ep : Nat} {k : NestedKey} {y v : V} {u r : Value} {A : Around} {E : Value → Shared → Prop}
theorem room_in1 {P : Program} {w : World} (hu : A.units + 9 < cLine) : (nestedKind P w).room A.in1 := by
  show A.units + 1 + 8 < cLine
  omega
/-- d[y], there -/
theorem x_getItem {Q : Value → Shared → Prop} (hu : A.units + 9 < cLine) (I : Inv X pins σ H s) (hK : Γ.K = X.K) (hw : Γ.w = X.w) (g : Asks Γ H a es ep k y) (hv : valE es k = some v) (ry : L2.RelV y u) (h : ∀ w' s', Inv X pins σ H s' → L2.RelV v w' → Q w' s') :
    wpAny (model X.prog X.w) A (getItem (.ref a) u) Q E s := by
  rcases g.two I hK hw with ⟨ks, b, xs, rfl, rfl, is, dd, rel⟩ | ⟨x, vs, rfl, rfl, dd, rel⟩
  · cases (show u = Value.ref b from ry)
    obtain ⟨w', hw', rw'⟩ := RelO.some_of (v := v) (o := (atKey xs (.tup ks)).map (·.2)) (by rw [← hv]; exact relT_val rel _)
    obtain ⟨p, hp, hp2⟩ := Option.map_eq_some_iff.mp hw'
    refine wpAny_getItem_heap (room_in1 hu) is dd hp ?_
    rw [hp2]
    exact h w' _ (I.tok _) rw'
  · obtain ⟨t, rfl⟩ := ry
    obtain ⟨w', hw', rw'⟩ := RelO.some_of (v := v) (o := valueAt vs x) (by rw [← hv]; exact relS_val rel _)
    exact wpAny_getItem_of (knd := strKind X.prog X.w) (k := x) (by show Value.isStrOf x (.str x t) = true; simp [Value.isStrOf]) dd.mapOf hw' (h w' _ (I.tok _) rw')
theorem x_in {Q : Value → Shared → Prop} (hu : A.units + 9 < cLine) (I : Inv X pins σ H s) (hK : Γ.K = X.K) (hw : Γ.w = X.w) (g : Asks Γ H a es ep k y) (ry : L2.RelV y u) (h : ∀ s', Inv X pins σ H s' → Q (.bool (valE es k).isSome) s') :
    wpAny (model X.prog X.w) A (compareOp .In u (.ref a)) Q E s := by
  have hd := (dx_of I g.at_).1
  rcases g.two I hK hw with ⟨ks, b, xs, rfl, rfl, is, dd, rel⟩ | ⟨x, vs, rfl, rfl, dd, rel⟩
  · cases (show u = Value.ref b from ry)
    refine wpAny_in_heap (room_in1 hu) is hd dd ?_
    have q := (relT_val rel (.tup ks)).isSome_eq
    rw [Option.isSome_map] at q
    rw [← q]
    exact h _ (I.tok _)
  · obtain ⟨t, rfl⟩ := ry
    refine wpAny_in_of (knd := strKind X.prog X.w) (k := x) (by show Value.isStrOf x (.str x t) = true; simp [Value.isStrOf]) hd dd.mapOf ?_
    rw [← (relS_val rel x).isSome_eq]
    exact h _ (I.tok _)
theorem x_notIn {Q : Value → Shared → Prop} (hu : A.units + 9 < cLine) (I : Inv X pins σ H s) (hK : Γ.K = X.K) (hw : Γ.w = X.w) (g : Asks Γ H a es ep k y) (ry : L2.RelV y u) (h : ∀ s', Inv X pins σ H s' → Q (.bool (!(valE es k).isSome)) s') :
    wpAny (model X.prog X.w) A (compareOp .NotIn u (.ref a)) Q E s := by
  have hd := (dx_of I g.at_).1
  rcases g.two I hK hw with ⟨ks, b, xs, rfl, rfl, is, dd, rel⟩ | ⟨x, vs, rfl, rfl, dd, rel⟩
  · cases (show u = Value.ref b from ry)
    refine PyProof.Rows.wpAny_notIn_heap (room_in1 hu) is hd dd ?_
    have q := (relT_val rel (.tup ks)).isSome_eq
    rw [Option.isSome_map] at q
    rw [← q]
    exact h _ (I.tok _)
  · obtain ⟨t, rfl⟩ := ry
    refine wpAny_notIn_of (knd := strKind X.prog X.w) (k := x) (by show Value.isStrOf x (.str x t) = true; simp [Value.isStrOf]) hd dd.mapOf ?_
    rw [← (relS_val rel x).isSome_eq]
    exact h _ (I.tok _)
theorem dx_ok {P : Program} {w : World} {H' : Hp} {h' : Heap} {o : Obj} {xs : Array DictEntry} (hd : (a == sysModules) = false) (hl : es.length ≤ sizeLine) (ho : h'.get? a = some o) (hx : o.ExactDict) (hdt : o.data = .dict xs ep) (hp : Paired (RelE w) es xs.toList) : ObjOk P w H' h' a (DX w a es ep) :=
  ⟨⟨hd, hl, o, xs, ho, hx, hdt, hp⟩, ⟨o, ho⟩, fun h1 h2 ⟨p1, p2, o, xs, p3, p4⟩ k => ⟨p1, p2, o, xs, k o p3, p4⟩⟩
theorem relT_raw {P : Program} {w : World} {es : List Ent} {xs : List (NestedKey × Addr × Value)} (h : Paired RelT es xs) : Paired (RelE w) es (xs.map (entryOfKey (nestedKind P w))) := by
  induction h with
  | nil => exact .nil
  | @cons e x es xs r t ih =>
    obtain ⟨h1, h2, h3⟩ := r
    rw [List.map_cons]
    refine .cons ⟨?_, ?_, h3⟩ ih
    · show x.1.hash w = e.1.hash w
      rw [h1]
    · rw [h2]; rfl
theorem relS_raw {P : Program} {w : World} {es : List Ent} {vs : List (Str × Value)} {raw : List DictEntry} (h : Paired RelS es vs) (hp : Pairs (strKind P w) raw vs) (hk : ∀ q ∈ raw, ∃ k, (strKind P w).is k q.key = true ∧ q.hash = (strKind P w).hash k) : Paired (RelE w) es raw := by
  induction h generalizing raw with
  | nil => cases hp; exact .nil
  | @cons e z es vs r t ih =>
    cases hp with
    | @cons q _ raw _ h1 h2 hp =>
      obtain ⟨h3, h4, h5⟩ := r
      obtain ⟨k, hk1, hk2⟩ := hk q (by simp)
      have hkz : k = z.1 := (strKind P w).inj _ _ _ hk1 h1
      subst hkz
      refine .cons ⟨?_, ?_, ?_⟩ (ih hp fun q hq => hk q (List.mem_cons_of_mem _ hq))
      · rw [hk2, h3]; rfl
      · rw [h4]
        obtain ⟨tk, e1⟩ := Value.isStrOf_shape (show Value.isStrOf z.1 q.key = true from h1)
        exact ⟨tk, e1⟩
      · rw [h2]; exact h5
theorem putE_len (es : List Ent) (k : NestedKey) (kv v : V) : (putE es k kv v).length ≤ es.length + 1 := by
  unfold putE
  split
  · rw [List.length_map]; omega
  · rw [List.length_append]; simp
/-- d[y] = v -/
theorem x_setItem {Q : Unit → Shared → Prop} (hu : A.units + 9 < cLine) (I : Inv X pins σ H s) (hK : Γ.K = X.K) (hw : Γ.w = X.w) (g : Asks Γ H a es ep k y) (hl : es.length < sizeLine) (ry : L2.RelV y u) (rv : L2.RelV v r) (h : ∀ ep' s', Inv X pins σ (upd H a (DX Γ.w a (putE es k y v) ep')) s' → Q () s') :
    wpAny (model X.prog X.w) A (setItem (.ref a) u r) Q E s := by
  obtain ⟨hd, _, _⟩ := dx_of I g.at_
  have mu : Mut (H a) := by rw [g.at_]; exact True.intro
  have hl2 : (putE es k y v).length ≤ sizeLine := by have := putE_len es k y v; omega
  rcases g.two I hK hw with ⟨ks, b, xs, rfl, rfl, is, dd, rel⟩ | ⟨x, vs, rfl, rfl, dd, rel⟩
  · cases (show u = Value.ref b from ry)
    have hz : xs.length ≤ sizeLine := by rw [← Paired.length rel]; omega
    refine wpAny_setItem_heap (hsz := hz) (room_in1 hu) is dd fun h' dd' hs => ?_
    obtain ⟨q, raw, ep', hq, h2, h3, h4, _, _⟩ := dd'
    refine h ep' _ (d_write I mu hs ⟨q, hq⟩ ?_)
    rw [hw]
    refine dx_ok hd hl2 hq h2 h3 ?_
    rw [h4]
    exact relT_raw (relT_put rel rv)
  · obtain ⟨t, rfl⟩ := ry
    have hz : vs.length ≤ sizeLine := by rw [← Paired.length rel]; omega
    refine wpAny_setItem_pairs (knd := strKind X.prog X.w) (k := x) (hsz := hz) (by show Value.isStrOf x (.str x t) = true; simp [Value.isStrOf]) dd fun h' dd' hs => ?_
    obtain ⟨q, raw, ep', hq, h2, h3, h4, h5, _⟩ := dd'
    refine h ep' _ (d_write I mu hs ⟨q, hq⟩ ?_)
    rw [hw]
    refine dx_ok hd hl2 hq h2 h3 ?_
    exact relS_raw (relS_put rel rv) h5 fun q hq => h4 q (by simpa using hq)
/-- len(d) -/
theorem x_len {w : World} {Q : Value → Shared → Prop} (I : Inv X pins σ H s) (g : H a = some (DX w a es ep)) (h : ∀ t s', Inv X pins σ H s' → Q (.int es.length t) s') : wpAny (model X.prog X.w) A (call (.builtin "len") [.ref a]) Q E s := by
  obtain ⟨hd, hl, o, xs, ho, hx, hdt, hp⟩ := dx_of I g
  have e : es.length = xs.size := by rw [Paired.length hp, Array.length_toList]
  have dr : s.heap.DictRaw a xs ep := ⟨o, ho, hx, hdt⟩
  have hl' : xs.size ≤ sizeLine := by omega
  rw [e] at h
  exact PyProof.Rows.call_len_slot (n := xs.size) dr.typeIs PySem.F.slot_dict_len (fun Q' hq => call_len_raw hd dr hq) (by omega) (by rw [sizeLine_eq] at hl'; omega) (h _ _ (I.tok _))
end
end TL
end
section
set_option Elab.async false
set_option Elab.async false
set_option linter.all false
set_option autoImplicit false
set_option maxRecDepth 100000
set_option maxHeartbeats 4000000
namespace TL
open PySem PySem.Spec L2
open PyProof.Rows (subscriptTail)
def tDX (w : World) : TE := fun _ H Q => ∀ p ep, H p = none → Q (.ref p) (upd H p (DX w p [] ep))
def rIxD (Γ : Gm) : R2 := fun x y H Q => ∃ a es ep k v, x = .ref a ∧ Asks Γ H a es ep k y ∧ valE es k = some v ∧ Q v H
def rIxU (Γ : Gm) : R2 := fun x y H Q => rIx Γ.K x y H Q ∨ rIxD Γ x y H Q
def rInD (Γ : Gm) (neg : Bool) : R2 := fun y x H Q => ∃ a es ep k, x = .ref a ∧ Asks Γ H a es ep k y ∧ Q (.bl (if neg then !(valE es k).isSome else (valE es k).isSome)) H
def rInU (Γ : Gm) : R2 := fun x y H Q => rInC x y H Q ∨ rIn Γ.K false x y H Q ∨ rInD Γ false x y H Q
def rNotInU (Γ : Gm) : R2 := fun x y H Q => rNotInC x y H Q ∨ rIn Γ.K true x y H Q ∨ rInD Γ true x y H Q
def rLenU (Γ : Gm) : List V → Hp → VK → Prop := fun vs H Q => rLenV Γ.K vs H Q ∨ ∃ a es ep, vs = [.ref a] ∧ H a = some (DX Γ.w a es ep) ∧ Q (.int es.length) H
def rSetU (Γ : Gm) : TSet := fun o i v H Q => rSetL o i v H Q ∨ ∃ a es ep k, o = .ref a ∧ Asks Γ H a es ep k i ∧ es.length < sizeLine ∧ ∀ ep', Q (upd H a (DX Γ.w a (putE es k i v) ep'))
section
variable {Γ : Gm} {X : Cx}
theorem pe_dnewX {pos : Pos} (hw : Γ.w = X.w) : PE X (.Dict [] [] pos) (tDX Γ.w) := ⟨fun pins s σ H Q I h => by
  refine wpAny_Dict_empty ⟨.ref s.heap.objs.size, _, I.laid (a := s.heap.objs.size) (o := DX Γ.w s.heap.objs.size [] 0) (t' := s.toks) (fun _ _ q => Heap.get?_push_of_some _ q) (Nat.le_refl _) ?_, rfl, h _ _ (I.hok.fresh (Nat.le_refl _))⟩
  rw [hw]
  exact dx_ok (beq_eq_false_iff_ne.mpr (Nat.ne_of_gt I.big)) (Nat.zero_le _) (Heap.get?_push_size _ rfl) ⟨rfl, rfl, rfl⟩ rfl .nil⟩
theorem dx_typeIs {pins : List (Addr × Obj)} {σ : St} {H : Hp} {s : Shared} {w : World} {a : Addr} {es : List Ent} {ep : Nat} (I : Inv X pins σ H s) (h : H a = some (DX w a es ep)) : s.TypeIs (.ref a) "dict" := by
  obtain ⟨_, _, o, xs, ho, hx, _⟩ := dx_of I h
  exact ⟨o, ho, hx.1⟩
theorem ix_dx (hu : X.A.units + 9 < cLine) (hK : Γ.K = X.K) (hw : Γ.w = X.w) : IxR X (rIxD Γ) := by
  intro value slice pins s σ H x y v u Q I rx ry h hs
  obtain ⟨a, es, ep, k, z, rfl, g, hv, q⟩ := h
  cases (show v = Value.ref a from rx)
  have hT := dx_typeIs I g.at_
  unfold subscriptTail
  refine wpAny_bind ?_
  rw [getitemInPython_of_ne hT.not_modules]
  refine wpAny_bind (wpAny_specialOf hT PySem.F.slot_dict_getitem.lookup ?_)
  have fin : wpAny (model X.prog X.w) X.A (subscripted slice false (.ref a) u) (fun r s₃ => wpAny (model X.prog X.w) X.A (letTemporaryGo value (.ref a) r >>= fun _ => pure r) (EP X pins σ Q) X.xe s₃) X.xe s := by
    rw [hs]
    exact wpAny_operating (x_getItem hu I hK hw g hv ry fun w' s' I' r' => wpAny_bind (wpAny_letTemporaryGo (wpAny_pure ⟨z, H, I', r', q⟩)))
  first
    | exact wpAny_pure (wpAny_bind fin)
    | exact wpAny_bind (wpAny_pure (wpAny_bind fin))
    | exact wpAny_bind fin
theorem ixU (hu : X.A.units + 9 < cLine) (hK : Γ.K = X.K) (hw : Γ.w = X.w) : IxR X (rIxU Γ) := by
  have h1 : IxR X (rIx Γ.K) := by rw [hK]; exact ix_seq
  exact IxR.or h1 (ix_dx hu hK hw)
theorem op_or {f : Value → Value → Sem Value} {r r' : R2} (h : OpR X f r) (h' : OpR X f r') : OpR X f (fun x y H Q => r x y H Q ∨ r' x y H Q) := by
  intro pins s σ H x y v u Q I rx ry q
  rcases q with q | q
  · exact h pins s σ H x y v u Q I rx ry q
  · exact h' pins s σ H x y v u Q I rx ry q
theorem op_inD (hu : X.A.units + 9 < cLine) (hK : Γ.K = X.K) (hw : Γ.w = X.w) : OpR X (compareOp .In) (rInD Γ false) := by
  intro pins s σ H y x u v Q I ry rx h
  obtain ⟨a, es, ep, k, rfl, g, q⟩ := h
  cases (show v = Value.ref a from rx)
  exact x_in hu I hK hw g ry fun s' I' => ⟨.bl (valE es k).isSome, H, I', rfl, q⟩
theorem op_notInD (hu : X.A.units + 9 < cLine) (hK : Γ.K = X.K) (hw : Γ.w = X.w) : OpR X (compareOp .NotIn) (rInD Γ true) := by
  intro pins s σ H y x u v Q I ry rx h
  obtain ⟨a, es, ep, k, rfl, g, q⟩ := h
  cases (show v = Value.ref a from rx)
  exact x_notIn hu I hK hw g ry fun s' I' => ⟨.bl (!(valE es k).isSome), H, I', rfl, q⟩
theorem opU_in (hu : X.A.units + 9 < cLine) (hK : Γ.K = X.K) (hw : Γ.w = X.w) : OpR X (compareOp .In) (rInU Γ) := by
  have h1 : OpR X (compareOp .In) (rIn Γ.K false) := by rw [hK]; exact op_in_seq
  exact op_or op_in_sign (op_or h1 (op_inD hu hK hw))
theorem opU_notIn (hu : X.A.units + 9 < cLine) (hK : Γ.K = X.K) (hw : Γ.w = X.w) : OpR X (compareOp .NotIn) (rNotInU Γ) := by
  have h1 : OpR X (compareOp .NotIn) (rIn Γ.K true) := by rw [hK]; exact op_notIn_seq
  exact op_or op_notIn_sign (op_or h1 (op_notInD hu hK hw))
theorem lenU (hK : Γ.K = X.K) : CallR X (.builtin "len") (rLenU Γ) := by
  intro pins s σ H xs us Q I r h
  rcases h with h | ⟨a, es, ep, rfl, g, q⟩
  · exact call_len pins s σ H xs us Q I r (by rw [← hK]; exact h)
  · obtain ⟨u, rfl, rx⟩ := vals1 r
    cases (show u = Value.ref a from rx)
    exact x_len I g fun t s' I' => ⟨.int es.length, H, I', ⟨t, rfl⟩, q⟩
theorem setU (hu : X.A.units + 9 < cLine) (hK : Γ.K = X.K) (hw : Γ.w = X.w) : PSet X (rSetU Γ) := by
  intro pins s σ H o i v ov iv u Q I ro ri rv h
  rcases h with h | ⟨a, es, ep, k, rfl, g, hl, q⟩
  · exact set_list pins s σ H o i v ov iv u Q I ro ri rv h
  · cases (show ov = Value.ref a from ro)
    exact x_setItem hu I hK hw g hl ri rv fun ep' s' I' => ⟨_, I', q ep'⟩
end
end TL
end
section
set_option Elab.async false
set_option Elab.async false
set_option linter.all false
set_option autoImplicit false
set_option maxRecDepth 100000
set_option maxHeartbeats 4000000
namespace TL
open PySem PySem.Spec L2
/-- the set at a may be asked for k, by y -/
structure AskS (Γ : Gm) (H : Hp) (a : Addr) (L : List SEnt) (k : NestedKey) (y : V) : Prop where
  at_ : H a = some (SX Γ.w a L)
  ks : ∀ e ∈ L, Ky Γ H e.2 e.1 ∧ kind e.2 = kind k
  ky : Ky Γ H k y
  kd : kind k ≤ 1
section
variable {Γ : Gm} {X : Cx} {pins : List (Addr × Obj)} {σ : St} {H : Hp} {s : Shared} {a : Addr} {L : List SEnt} {k : NestedKey} {y : V} {u : Value} {A : Around} {E : Value → Shared → Prop}
theorem AskS.two (I : Inv X pins σ H s) (hK : Γ.K = X.K) (q : AskS Γ H a L k y) :
    (∃ (b : Addr) (Ls : List (Addr × NestedKey)), kind k = 0 ∧ y = .ref b ∧ NT s.heap k b ∧ L = ofTp Ls ∧ ∀ p ∈ Ls, NT s.heap p.2 p.1) ∨ (∃ (x : Str) (ks : List Str), k = .text x ∧ y = .str x ∧ L = ofTx ks) := by
  obtain ⟨_, hks, hky, hkd⟩ := q
  cases k with
  | num i => exact absurd hkd (by show ¬ 2 ≤ 1; decide)
  | none => exact absurd hkd (by show ¬ 3 ≤ 1; decide)
  | tup ks =>
    left
    obtain ⟨b, rfl⟩ := hky.tup
    have go : ∀ L : List SEnt, (∀ e ∈ L, Ky Γ H e.2 e.1 ∧ kind e.2 = kind (.tup ks)) → ∃ Ls : List (Addr × NestedKey), L = ofTp Ls ∧ ∀ p ∈ Ls, NT s.heap p.2 p.1 := by
      intro L
      induction L with
      | nil => intro _; exact ⟨[], rfl, fun p hp => by cases hp⟩
      | cons e L ih =>
        intro h
        obtain ⟨Ls, e1, e2⟩ := ih fun e he => h e (List.mem_cons_of_mem _ he)
        obtain ⟨ke, kk⟩ := h e (by simp)
        obtain ⟨v, k⟩ := e
        cases k with
        | num i => exact absurd kk (by show ¬ (2 = 0); decide)
        | none => exact absurd kk (by show ¬ (3 = 0); decide)
        | text i => exact absurd kk (by show ¬ (1 = 0); decide)
        | tup ls =>
          obtain ⟨c, hc⟩ := ke.tup
          have hc : v = .ref c := hc
          subst hc
          refine ⟨(c, .tup ls) :: Ls, by rw [e1]; rfl, fun p hp => ?_⟩
          rcases List.mem_cons.mp hp with rfl | hp
          · exact ⟨ke.is I hK rfl, ke.1⟩
          · exact e2 p hp
    obtain ⟨Ls, e1, e2⟩ := go L hks
    exact ⟨b, Ls, rfl, rfl, ⟨hky.is I hK rfl, hky.1⟩, e1, e2⟩
  | text x =>
    right
    have hy := hky.text
    subst hy
    have go : ∀ L : List SEnt, (∀ e ∈ L, Ky Γ H e.2 e.1 ∧ kind e.2 = kind (.text x)) → ∃ ks : List Str, L = ofTx ks := by
      intro L
      induction L with
      | nil => intro _; exact ⟨[], rfl⟩
      | cons e L ih =>
        intro h
        obtain ⟨Ls, e1⟩ := ih fun e he => h e (List.mem_cons_of_mem _ he)
        obtain ⟨ke, kk⟩ := h e (by simp)
        obtain ⟨v, k⟩ := e
        cases k with
        | num i => exact absurd kk (by show ¬ (2 = 1); decide)
        | none => exact absurd kk (by show ¬ (3 = 1); decide)
        | tup i => exact absurd kk (by show ¬ (0 = 1); decide)
        | text z =>
          have hc : v = .str z := ke.text
          subst hc
          exact ⟨z :: Ls, by rw [e1]; rfl⟩
    obtain ⟨ks, e1⟩ := go L hks
    exact ⟨x, ks, rfl, rfl, e1⟩
end
end TL
end
section
set_option Elab.async false
set_option Elab.async false
set_option linter.all false
set_option autoImplicit false
set_option maxRecDepth 100000
set_option maxHeartbeats 4000000
namespace TL
open PySem PySem.Spec L2
end TL
end
section
set_option Elab.async false
set_option Elab.async false
set_option linter.all false
set_option autoImplicit false
set_option maxRecDepth 100000
set_option maxHeartbeats 4000000
namespace TL
open PySem PySem.Spec L2
def Itx (w : World) (d : Addr) (es : List Ent) (ep : Nat) : It :=
  ⟨fun i H => H d = some (DX w d es ep) ∧ i < es.length, fun i H x H' => H' = H ∧ ∃ e, es[i]? = some e ∧ x = e.2.1, fun i H => H d = some (DX w d es ep) ∧ es.length ≤ i⟩
theorem turn_dx {P : Program} {w : World} {K : PySem.W.Frag} {tg : Expr} {d : Addr} {es : List Ent} {ep : Nat} (it : Addr) : Turn P w K tg (Itx w d es ep) [it] it (fun i h => h.IsKeyIter it d i es.length ep) where
  mem := by simp
  obj := fun i h st b hb => by
    have e : b = it := by simpa using hb
    subst e
    obtain ⟨oi, e, c, dd⟩ := st
    exact ⟨oi, e, fun v z => by rw [dd] at z; cases z⟩
  keep := fun i h h' st k => st.at fun oi e => k it (by simp) oi e
  item := by
    intro X hP hw hK hc i pins s σ H E I hf st hg
    subst hP hw hK
    obtain ⟨hd, hi⟩ := hg
    obtain ⟨f0, f1, f2, f3, f4, f5⟩ := hf it (by simp)
    obtain ⟨_, _, o, xs, ho, hx, hdt, hp⟩ := dx_of I hd
    have hl : es.length = xs.size := by rw [Paired.length hp, Array.length_toList]
    obtain ⟨en, hen, _, hkey, _⟩ := pr_get hp (List.getElem?_eq_getElem hi)
    refine next_key_item st ho hdt hl.symm (by rw [← Array.getElem?_toList]; exact hen) fun h' st' sb => ?_
    have I1 : Inv X pins σ H { s with heap := h' } := I.turned (t' := s.toks) (fun b ob hb e => (sb.2 b hb).trans e) f0 f1 f3 f4 f5
    obtain ⟨oi, e, c, dd⟩ := id st'
    exact ⟨en.key, rfl, go_of (s := { s with heap := h' }) e c dd (by decide) ⟨_, H, I1, hkey, ⟨rfl, _, List.getElem?_eq_getElem hi, rfl⟩, st', fun b hb => (hf b hb).1⟩⟩
  done := by
    intro X hP hw hK hc i pins s σ H E I hf st hg
    subst hP hw hK
    obtain ⟨hd, hi⟩ := hg
    obtain ⟨f0, f1, f2, f3, f4, f5⟩ := hf it (by simp)
    obtain ⟨_, _, o, xs, ho, hx, hdt, hp⟩ := dx_of I hd
    have hl : es.length = xs.size := by rw [Paired.length hp, Array.length_toList]
    exact next_key_end (I.ok.hd hc) st ho hdt hl.symm hi fun h' eb => ⟨rfl, I.turned (t' := s.toks) (fun b ob hb e => eb b ob hb e) f0 f1 f3 f4 f5⟩
  self := fun A i s Q E st h => by
    refine wpAny_pyIter_slot st.typeIs F.slot_dict_keyiterator_iter (wpAny_call_entry F.slot_dict_keyiterator_iter st.typeIs F.entry_dict_keyiterator_iter ?_ (F.args_dict_keyiterator_iter_1 _))
    show wpAny _ _ (ret (.ref it)) _ _ s
    exact wpAny_pure ⟨_, rfl, "dict_keyiterator", _, st.typeIs, F.slot_dict_keyiterator_next.lookup, h⟩
def iU (Γ : Gm) (te : TE) : TI := fun σ H R => te σ H fun x H1 => (∃ z, x = .str z ∧ R (Its z) H1) ∨ ∃ a, x = .ref a ∧ (((∃ xs, SqL Γ.K H1 a xs) ∧ R (Itl Γ.K a) H1) ∨ ((∃ xs, SqT Γ.K H1 a xs) ∧ R (Itt Γ.K a) H1) ∨ ∃ es ep, H1 a = some (DX Γ.w a es ep) ∧ R (Itx Γ.w a es ep) H1)
section
variable {Γ : Gm} {X : Cx}
theorem piU {tg e : Expr} {te : TE} (hK : Γ.K = X.K) (hw : Γ.w = X.w) (he : PE X e te) : PI X tg e (iU Γ te) := by
  refine ⟨fun pins s σ H R I h => ?_⟩
  refine thn (he.run pins s σ H _ I h) fun v s1 ⟨y, H1, I1, r1, q1⟩ => ?_
  rcases q1 with ⟨x, rfl, q⟩ | ⟨a, rfl, q1⟩
  · obtain ⟨t, rfl⟩ := r1
    cases ha : x.cps.all (· < 128)
    · exact wpAny_pyIter_wide ha (pi_one (tk := s1.toks) I1 _ (turn_str _ x t "str_iterator" (.inr rfl)) ⟨_, Heap.get?_push_size _ rfl, rfl, rfl⟩ q)
    · exact wpAny_pyIter_ascii ha (pi_one (tk := s1.toks) I1 _ (turn_str _ x t "str_ascii_iterator" (.inl rfl)) ⟨_, Heap.get?_push_size _ rfl, rfl, rfl⟩ q)
  · cases r1
    rw [hK, hw] at q1
    rcases q1 with ⟨⟨xs, hq⟩, q⟩ | ⟨⟨xs, hq⟩, q⟩ | ⟨es, ep, hd, q⟩
    · obtain ⟨its, rv, p, hz⟩ := I1.list hq
      exact wpAny_pyIter_list p.isList (pi_one (tk := s1.toks) I1 _ (turn_list a _) ⟨_, Heap.get?_push_size _ rfl, rfl, rfl⟩ q)
    · obtain ⟨its, rv, p, hz⟩ := I1.tuple hq
      exact wpAny_pyIter_tuple (show s1.heap.IsTuple a its.toArray from p) (pi_one (tk := s1.toks) I1 _ (turn_tuple a _) ⟨_, Heap.get?_push_size _ rfl, rfl, rfl⟩ q)
    · obtain ⟨hs, _, o, xs, ho, hx, hdt, hp⟩ := dx_of I1 hd
      have hl : es.length = xs.size := by rw [Paired.length hp, Array.length_toList]
      refine iter_keys hs ho hx hdt (pi_one (tk := s1.toks) I1 _ (turn_dx _) ⟨_, Heap.get?_push_size _ rfl, rfl, ?_⟩ q)
      rw [hl]; rfl
/-- list(d) -/
theorem call_list_dx (hc : X.calm = true) : CallR X (.type "list") (fun xs H Q => ∃ d es ep, xs = [V.ref d] ∧ H d = some (DX Γ.w d es ep) ∧ ∀ p, H p = none → Q (.ref p) (upd H p (.lst (es.map (·.2.1))))) := by
  intro pins s σ H xs us Q I r h
  obtain ⟨d, es, ep, rfl, hd, q⟩ := h
  obtain ⟨u, rfl, rx⟩ := r.one
  cases rx
  obtain ⟨hs, hl, o, raw, ho, hx, hdt, hp⟩ := dx_of I hd
  have l1 : es.length = raw.size := by rw [Paired.length hp, Array.length_toList]
  refine PySem.W.kdl_call (KdlSrc.rawDict (es := raw) (ep := ep) hs) (I.ok.hd hc) ⟨o, ho, hx, hdt⟩ (by omega) fun h' tk acc' c' kp e it => ?_
  have va : Vals (es.map (·.2.1)) acc'.toList := by
    have hl2 : acc'.toList.length = es.length := by rw [Array.length_toList, it.1]; omega
    have gen : ∀ {xs : List V} {us : List Value}, xs.length = us.length → (∀ (i : Nat) (x : V), xs[i]? = some x → ∃ u, us[i]? = some u ∧ L2.RelV x u) → Vals xs us := by
      intro xs
      induction xs with
      | nil => intro us hl _; cases us with
        | nil => exact .nil
        | cons _ _ => simp at hl
      | cons x xs ih =>
        intro us hl h
        cases us with
        | nil => simp at hl
        | cons u us =>
          obtain ⟨u', e, r⟩ := h 0 x rfl
          cases e
          exact .cons r (ih (by simpa using hl) fun i x hx => by simpa using h (i + 1) x (by simpa using hx))
    refine gen (by simp [hl2]) fun i x hx => ?_
    rw [List.getElem?_map] at hx
    cases he : es[i]? with
    | none => rw [he] at hx; cases hx
    | some en =>
      rw [he] at hx
      cases hx
      obtain ⟨q1, q2, q3, q4, _⟩ := pr_get hp he
      obtain ⟨hi, _⟩ := List.getElem?_eq_some_iff.mp he
      have hai : i < acc'.size := by rw [it.1]; omega
      obtain ⟨hi2, hv⟩ := it.2 i acc'[i] (Array.getElem?_eq_getElem hai)
      refine ⟨acc'[i], by rw [Array.getElem?_toList]; exact Array.getElem?_eq_getElem hai, ?_⟩
      rw [hv]
      rw [Array.getElem?_toList, Array.getElem?_eq_getElem hi2] at q2
      cases q2
      exact q4
  exact ⟨.ref s.heap.objs.size, _, I.laid (a := s.heap.objs.size) (o := .lst (es.map (·.2.1))) (t' := tk) kp (Nat.le_refl _) ⟨by simpa using hl, acc'.toList, c', va, by simpa using e⟩, rfl, q _ (I.hok.fresh (Nat.le_refl _))⟩
end
end TL
end
section
set_option Elab.async false
set_option Elab.async false
set_option linter.all false
set_option autoImplicit false
set_option maxRecDepth 100000
set_option maxHeartbeats 4000000
namespace TL
open PySem PySem.Spec L2
end TL
end
section
set_option Elab.async false
set_option Elab.async false
set_option linter.all false
set_option autoImplicit false
set_option maxRecDepth 100000
set_option maxHeartbeats 4000000
namespace TL
open PySem PySem.Spec L2
theorem szL_eq : szL = sizeLine := by rw [sizeLine_eq]; rfl
def rEqU (Γ : Gm) : R2 := fun x y H Q => rEq x y H Q ∨ rEqD Γ.K x y H Q
def rNeU (Γ : Gm) : R2 := fun x y H Q => rNe x y H Q ∨ rNeD Γ.K x y H Q
def rAddU : R2 := fun x y H Q => rI0 (fun i j => .int (i + j)) x y H Q ∨ rAddS x y H Q
section
variable {Γ : Gm} {X : Cx}
theorem opU_eq (hK : Γ.K = X.K) (hu : X.A.units + 64 < cLine) : OpR X (compareOp .Eq) (rEqU Γ) := by
  have h1 : OpR X (compareOp .Eq) (rEqD Γ.K) := by rw [hK]; exact op_eqD hu
  exact op_or op_eq h1
theorem opU_ne (hK : Γ.K = X.K) (hu : X.A.units + 64 < cLine) : OpR X (compareOp .NotEq) (rNeU Γ) := by
  have h1 : OpR X (compareOp .NotEq) (rNeD Γ.K) := by rw [hK]; exact op_neD hu
  exact op_or op_ne h1
theorem opU_add : OpR X (binaryOp .Add) rAddU := op_or op_add op_add_str
end
mutual
def toData : T → PyData
  | .non => .none
  | .bl b => .bool b
  | .int i => .int i
  | .str x => .str x
  | .tup xs => .tuple (toDatas xs)
  | .lst xs => .list (toDatas xs)
  | .dct _ => .none
  | .set _ => .none
  | .ins _ _ => .none
def toDatas : List T → List PyData
  | [] => []
  | x :: xs => toData x :: toDatas xs
end
section
variable {Γ : Gm}
mutual
theorem dp_of {F H : Hp} : ∀ (t : T) {v : V}, plain t = true → Rep Γ F H t v → Dp Γ.K H v (toData t)
  | .non, v, _, h => by cases h; exact .non
  | .bl b, v, _, h => by cases h; exact .bl b
  | .int b, v, _, h => by cases h; exact .int b
  | .str b, v, _, h => by cases h; exact .str b
  | .tup xs, v, hp, h => by
    obtain ⟨a, vs, rfl, h1, h2⟩ := h
    exact .tup h1 (dp_all xs hp h2)
  | .lst xs, v, hp, h => by
    obtain ⟨a, vs, rfl, h1, h2⟩ := h
    exact .lst h1 (dp_all xs hp h2)
  | .dct _, v, hp, _ => by cases hp
  | .set _, v, hp, _ => by cases hp
  | .ins _ _, v, hp, _ => by cases hp
theorem dp_all {F H : Hp} : ∀ (ts : List T) {vs : List V}, plains ts = true → RepL Γ F H ts vs → DpAll Γ.K H vs (toDatas ts)
  | [], vs, _, h => by cases h; exact .nil
  | t :: ts, vs, hp, h => by
    obtain ⟨v, r, rfl, h1, h2⟩ := h
    simp only [plains, Bool.and_eq_true] at hp
    exact .cons (dp_of t hp.1 h1) (dp_all ts hp.2 h2)
end
mutual
theorem canLay_of : ∀ (t : T), plain t = true → (toData t).canLay0 = true
  | .non, _ => rfl
  | .bl _, _ => rfl
  | .int _, _ => rfl
  | .str x, h => h
  | .tup xs, h => canLay_all xs h
  | .lst xs, h => canLay_all xs h
  | .dct _, h => by cases h
  | .set _, h => by cases h
  | .ins _ _, h => by cases h
theorem canLay_all : ∀ (ts : List T), plains ts = true → PyData.canLayAll0 (toDatas ts) = true
  | [], _ => rfl
  | t :: ts, h => by
    simp only [plains, Bool.and_eq_true] at h
    simp only [toDatas, PyData.canLayAll0, canLay_of t h.1, canLay_all ts h.2, Bool.and_self]
end
mutual
theorem depth_of : ∀ (t : T), (toData t).depth = dep t
  | .non => rfl
  | .bl _ => rfl
  | .int _ => rfl
  | .str _ => rfl
  | .tup xs => by simp only [toData, PyData.depth, dep, depth_all xs]
  | .lst xs => by simp only [toData, PyData.depth, dep, depth_all xs]
  | .dct _ => rfl
  | .set _ => rfl
  | .ins _ _ => rfl
theorem depth_all : ∀ (ts : List T), PyData.depthAll (toDatas ts) = deps ts
  | [] => rfl
  | t :: ts => by simp only [toDatas, PyData.depthAll, deps, depth_of t, depth_all ts]
end
mutual
theorem eqv_of : ∀ (x y : T), plain x = true → plain y = true → PyData.eqv (toData x) (toData y) = tEq x y
  | .non, y, _, hy => by cases y <;> first | rfl | cases hy
  | .bl b, y, _, hy => by cases y <;> first | rfl | cases hy
  | .int b, y, _, hy => by cases y <;> first | rfl | cases hy
  | .str b, y, _, hy => by cases y <;> first | rfl | cases hy
  | .tup xs, y, hx, hy => by
    cases y with
    | tup ys => simp only [toData, PyData.eqv, tEq]; exact eqv_all xs ys hx hy
    | _ => first | rfl | cases hy
  | .lst xs, y, hx, hy => by
    cases y with
    | lst ys => simp only [toData, PyData.eqv, tEq]; exact eqv_all xs ys hx hy
    | _ => first | rfl | cases hy
  | .dct _, y, hx, _ => by cases hx
  | .set _, y, hx, _ => by cases hx
  | .ins _ _, y, hx, _ => by cases hx
theorem eqv_all : ∀ (xs ys : List T), plains xs = true → plains ys = true → PyData.eqvAll (toDatas xs) (toDatas ys) = tEqs xs ys
  | [], [], _, _ => rfl
  | [], _ :: _, _, _ => rfl
  | _ :: _, [], _, _ => rfl
  | x :: xs, y :: ys, hx, hy => by
    simp only [plains, Bool.and_eq_true] at hx hy
    simp only [toDatas, PyData.eqvAll, tEqs, eqv_of x y hx.1 hy.1, eqv_all xs ys hx.2 hy.2]
end
theorem shaped_of {t : T} (h : eqOk t = true) : SeqAt.shaped (toData t) = true := by
  simp only [eqOk, Bool.and_eq_true, decide_eq_true_eq] at h
  simp only [SeqAt.shaped, canLay_of t h.1, Bool.true_and, decide_eq_true_eq, depth_of]
  omega
theorem eqOk_plain {t : T} (h : eqOk t = true) : plain t = true := by
  simp only [eqOk, Bool.and_eq_true] at h
  exact h.1
/-- scalars -/
theorem scal_of {F H : Hp} {x y : T} {vx vy : V} (h : scP x y = true) (hx : Rep Γ F H x vx) (hy : Rep Γ F H y vy) : scal vx vy = true ∧ decide (vx = vy) = tEq x y := by
  cases x with
  | non =>
    cases hx
    cases y with
    | non => cases hy; exact ⟨rfl, rfl⟩
    | bl b => cases hy; exact ⟨rfl, rfl⟩
    | int b => cases hy; exact ⟨rfl, rfl⟩
    | str b => cases hy; exact ⟨rfl, rfl⟩
    | _ => cases h
  | bl a =>
    cases hx
    cases y with
    | non => cases hy; exact ⟨rfl, rfl⟩
    | bl b => cases hy; exact ⟨rfl, by cases a <;> cases b <;> rfl⟩
    | int b => cases h
    | str b => cases hy; exact ⟨rfl, rfl⟩
    | _ => cases h
  | int a =>
    cases hx
    cases y with
    | non => cases hy; exact ⟨rfl, rfl⟩
    | bl b => cases h
    | int b => cases hy; exact ⟨rfl, by rw [dec_int]; rfl⟩
    | str b => cases hy; exact ⟨rfl, rfl⟩
    | _ => cases h
  | str a =>
    cases hx
    cases y with
    | non => cases hy; exact ⟨rfl, rfl⟩
    | bl b => cases hy; exact ⟨rfl, rfl⟩
    | int b => cases hy; exact ⟨rfl, rfl⟩
    | str b =>
      cases hy
      refine ⟨rfl, ?_⟩
      show _ = (a == b)
      by_cases e : a = b
      · subst e; simp
      · have : ¬ V.str a = V.str b := fun q => e (by injection q)
        rw [decide_eq_false this]
        exact (beq_eq_false_iff_ne.mpr e).symm
    | _ => cases h
  | _ => cases y <;> cases h
theorem opS_eq : OpS Γ (rEqU Γ) oEq := by
  intro F H x y w vx vy Q hx hy hf hq
  unfold oEq at hf
  split at hf
  · rename_i hc
    cases hf
    have q := hq _ Rep0.bl
    unfold cmpOk at hc
    rw [Bool.or_eq_true] at hc
    rcases hc with hc | hc
    · obtain ⟨h1, h2⟩ := scal_of hc hx hy
      exact .inl ⟨h1, by rw [h2]; exact q⟩
    · rw [Bool.and_eq_true] at hc
      exact .inr ⟨_, _, dp_of x (eqOk_plain hc.1) hx, dp_of y (eqOk_plain hc.2) hy, shaped_of hc.1, shaped_of hc.2, by rw [eqv_of x y (eqOk_plain hc.1) (eqOk_plain hc.2)]; exact q⟩
  · cases hf
theorem opS_ne : OpS Γ (rNeU Γ) oNe := by
  intro F H x y w vx vy Q hx hy hf hq
  unfold oNe at hf
  split at hf
  · rename_i hc
    cases hf
    have q := hq _ Rep0.bl
    unfold cmpOk at hc
    rw [Bool.or_eq_true] at hc
    rcases hc with hc | hc
    · obtain ⟨h1, h2⟩ := scal_of hc hx hy
      exact .inl ⟨h1, by rw [h2]; exact q⟩
    · rw [Bool.and_eq_true] at hc
      exact .inr ⟨_, _, dp_of x (eqOk_plain hc.1) hx, dp_of y (eqOk_plain hc.2) hy, shaped_of hc.1, shaped_of hc.2, by rw [eqv_of x y (eqOk_plain hc.1) (eqOk_plain hc.2)]; exact q⟩
  · cases hf
theorem opS_I0 {g : Int → Int → V} {f : Int → Int → Option T} (h : ∀ i j, ∃ w, f i j = some w ∧ Rep0 Γ w (g i j)) : OpS Γ (rI0 g) (oI f) := by
  intro F H x y w vx vy Q hx hy hf hq
  cases x with
  | int i =>
    cases y with
    | int j =>
      cases hx; cases hy
      obtain ⟨w', e, r⟩ := h i j
      have hf : f i j = some w := hf
      rw [e] at hf; cases hf
      exact ⟨i, j, rfl, rfl, hq _ r⟩
    | _ => cases hf
  | _ => cases hf
theorem opS_I {C : Int → Int → Prop} {g : Int → Int → V} {f : Int → Int → Option T} (h : ∀ i j w, f i j = some w → C i j ∧ Rep0 Γ w (g i j)) : OpS Γ (rI C g) (oI f) := by
  intro F H x y w vx vy Q hx hy hf hq
  cases x with
  | int i =>
    cases y with
    | int j =>
      cases hx; cases hy
      obtain ⟨c, r⟩ := h i j w hf
      exact ⟨i, j, rfl, rfl, c, hq _ r⟩
    | _ => cases hf
  | _ => cases hf
theorem opS_sub : OpS Γ (rI0 fun i j => .int (i - j)) oSub := opS_I0 fun i j => ⟨_, rfl, rfl⟩
theorem opS_lt : OpS Γ (rI0 fun i j => .bl (decide (i < j))) oLt := opS_I0 fun i j => ⟨_, rfl, rfl⟩
theorem opS_le : OpS Γ (rI0 fun i j => .bl (decide (i ≤ j))) oLe := opS_I0 fun i j => ⟨_, rfl, rfl⟩
theorem opS_gt : OpS Γ (rI0 fun i j => .bl (decide (j < i))) oGt := opS_I0 fun i j => ⟨_, rfl, rfl⟩
theorem ite_some {c : Prop} [Decidable c] {a w : T} (h : (if c then some a else none) = some w) : c ∧ w = a := by
  split at h
  · cases h; exact ⟨‹_›, rfl⟩
  · cases h
theorem opS_mul : OpS Γ (rI CMul fun i j => .int (i * j)) oMul := opS_I fun i j w h => by
  obtain ⟨c, rfl⟩ := ite_some h
  exact ⟨c, rfl⟩
theorem opS_div : OpS Γ (rI CDivW fun i j => .int (i / j)) oDiv := opS_I fun i j w h => by
  obtain ⟨c, rfl⟩ := ite_some h
  exact ⟨wide_div (b := 64) c.1 (by omega) (by decide) (by decide), rfl⟩
theorem opS_mod : OpS Γ (rI (fun _ j => 0 < j) fun i j => .int (i % j)) oMod := opS_I fun i j w h => by
  obtain ⟨c, rfl⟩ := ite_some h
  exact ⟨c, rfl⟩
theorem opS_pow : OpS Γ (rI CPow fun i j => .int (i ^ j.toNat)) oPow := opS_I fun i j w h => by
  obtain ⟨c, rfl⟩ := ite_some h
  exact ⟨c, rfl⟩
theorem opS_add : OpS Γ rAddU oAdd := by
  intro F H x y w vx vy Q hx hy hf hq
  cases x with
  | int i =>
    cases y with
    | int j => cases hx; cases hy; cases hf; exact .inl ⟨i, j, rfl, rfl, hq _ rfl⟩
    | _ => cases hf
  | str i =>
    cases y with
    | str j =>
      cases hx; cases hy
      obtain ⟨c, rfl⟩ := ite_some hf
      exact .inr ⟨i, j, rfl, rfl, by rw [← szL_eq]; exact c, hq _ rfl⟩
    | _ => cases hf
  | _ => cases hf
theorem isNon_of {F H : Hp} {x : T} {v : V} (h : Rep Γ F H x v) : decide (v = .non) = isNon x := by
  cases x with
  | non => cases h; rfl
  | bl _ => cases h; rfl
  | int _ => cases h; rfl
  | str _ => cases h; rfl
  | tup _ => obtain ⟨a, vs, rfl, _⟩ := h; rfl
  | lst _ => obtain ⟨a, vs, rfl, _⟩ := h; rfl
  | dct _ => obtain ⟨a, vs, ep, rfl, _⟩ := h; rfl
  | set _ => obtain ⟨a, vs, rfl, _⟩ := h; rfl
  | ins _ _ => obtain ⟨a, vs, fv, rfl, _⟩ := h; rfl
theorem isNon_v {F H : Hp} {y : T} {v : V} (e : isNon y = true) (h : Rep Γ F H y v) : v = .non := by
  cases y with
  | non => exact h
  | _ => cases e
theorem opS_notN : OpS Γ rNotN oNotN := by
  intro F H x y w vx vy Q hx hy hf hq
  obtain ⟨c, rfl⟩ := ite_some hf
  exact ⟨isNon_v c hy, by rw [isNon_of hx]; exact hq _ rfl⟩
end
end TL
end
section
set_option Elab.async false
set_option Elab.async false
set_option linter.all false
set_option autoImplicit false
set_option maxRecDepth 100000
set_option maxHeartbeats 4000000
namespace TL
open PySem PySem.Spec L2
section
variable {Γ : Gm}
mutual
theorem key_ok : ∀ (t : T), isKey t = true → ∃ k, keyOf t = some k ∧ k.depth = dep t
  | .non, _ => ⟨_, rfl, rfl⟩
  | .bl _, _ => ⟨_, rfl, rfl⟩
  | .int _, _ => ⟨_, rfl, rfl⟩
  | .str _, _ => ⟨_, rfl, rfl⟩
  | .tup xs, h => by
    obtain ⟨ks, e1, e2⟩ := keys_ok xs h
    exact ⟨.tup ks, by simp only [keyOf, e1]; rfl, by simp only [NestedKey.depth, dep, e2]⟩
  | .lst _, h => by cases h
  | .dct _, h => by cases h
  | .set _, h => by cases h
  | .ins _ _, h => by cases h
theorem keys_ok : ∀ (ts : List T), isKeys ts = true → ∃ ks, keysOf ts = some ks ∧ NestedKey.depthAll ks = deps ts
  | [], _ => ⟨[], rfl, rfl⟩
  | t :: ts, h => by
    simp only [isKeys, Bool.and_eq_true] at h
    obtain ⟨k, e1, e2⟩ := key_ok t h.1
    obtain ⟨ks, e3, e4⟩ := keys_ok ts h.2
    exact ⟨k :: ks, by simp only [keysOf, e1, e3], by simp only [NestedKey.depthAll, deps, e2, e4]⟩
end
theorem key_tup {xs : List T} {k : NestedKey} (h : keyOf (.tup xs) = some k) : ∃ ks, k = .tup ks ∧ keysOf xs = some ks := by
  simp only [keyOf] at h
  cases e : keysOf xs with
  | none => rw [e] at h; cases h
  | some ks => rw [e] at h; cases h; exact ⟨ks, rfl, rfl⟩
theorem keys_cons {x : T} {xs : List T} {ks : List NestedKey} (h : keysOf (x :: xs) = some ks) : ∃ k r, ks = k :: r ∧ keyOf x = some k ∧ keysOf xs = some r := by
  simp only [keysOf] at h
  cases e1 : keyOf x with
  | none => rw [e1] at h; cases h
  | some k =>
    cases e2 : keysOf xs with
    | none => rw [e1, e2] at h; cases h
    | some r => rw [e1, e2] at h; cases h; exact ⟨k, r, rfl, rfl, rfl⟩
mutual
theorem key_beq : ∀ (x y : T) {k l : NestedKey}, keyOf x = some k → keyOf y = some l → tEq x y = NestedKey.beq k l
  | .non, y, k, l, hx, hy => by
    cases hx
    cases y with
    | tup ys => obtain ⟨ks, rfl, _⟩ := key_tup hy; rfl
    | _ => first | (cases hy; done) | (cases hy; rfl)
  | .bl b, y, k, l, hx, hy => by
    cases hx
    cases y with
    | tup ys => obtain ⟨ks, rfl, _⟩ := key_tup hy; rfl
    | bl c => cases hy; cases b <;> cases c <;> rfl
    | int c => cases hy; cases b <;> rfl
    | _ => first | (cases hy; done) | (cases hy; rfl)
  | .int b, y, k, l, hx, hy => by
    cases hx
    cases y with
    | tup ys => obtain ⟨ks, rfl, _⟩ := key_tup hy; rfl
    | bl c => cases hy; cases c <;> rfl
    | int c => cases hy; rfl
    | _ => first | (cases hy; done) | (cases hy; rfl)
  | .str b, y, k, l, hx, hy => by
    cases hx
    cases y with
    | tup ys => obtain ⟨ks, rfl, _⟩ := key_tup hy; rfl
    | str c =>
      cases hy
      show (b == c) = decide (b = c)
      by_cases e : b = c
      · subst e; simp
      · rw [decide_eq_false e]; exact beq_eq_false_iff_ne.mpr e
    | _ => first | (cases hy; done) | (cases hy; rfl)
  | .tup xs, y, k, l, hx, hy => by
    obtain ⟨ks, rfl, e⟩ := key_tup hx
    cases y with
    | tup ys =>
      obtain ⟨ls, rfl, e'⟩ := key_tup hy
      simp only [tEq, NestedKey.beq]
      exact keys_beq xs ys e e'
    | _ => first | (cases hy; done) | (cases hy; rfl)
  | .lst _, _, _, _, hx, _ => by cases hx
  | .dct _, _, _, _, hx, _ => by cases hx
  | .set _, _, _, _, hx, _ => by cases hx
  | .ins _ _, _, _, _, hx, _ => by cases hx
theorem keys_beq : ∀ (xs ys : List T) {ks ls : List NestedKey}, keysOf xs = some ks → keysOf ys = some ls → tEqs xs ys = NestedKey.beqAll ks ls
  | [], [], ks, ls, hx, hy => by cases hx; cases hy; rfl
  | [], y :: ys, ks, ls, hx, hy => by
    cases hx
    obtain ⟨k, r, rfl, _, _⟩ := keys_cons hy
    rfl
  | x :: xs, [], ks, ls, hx, hy => by
    cases hy
    obtain ⟨k, r, rfl, _, _⟩ := keys_cons hx
    rfl
  | x :: xs, y :: ys, ks, ls, hx, hy => by
    obtain ⟨k, r, rfl, h1, h2⟩ := keys_cons hx
    obtain ⟨k', r', rfl, h3, h4⟩ := keys_cons hy
    simp only [tEqs, NestedKey.beqAll, key_beq x y h1 h3, keys_beq xs ys h2 h4]
end
theorem key_eq {x y : T} {k l : NestedKey} (hx : keyOf x = some k) (hy : keyOf y = some l) : tEq x y = decide (k = l) := by rw [NestedKey.decide_eq]; exact key_beq x y hx hy
theorem kind_of {t : T} {k : NestedKey} (h : keyOf t = some k) (hk : knd t ≤ 1) : kind k = knd t := by
  cases t with
  | tup xs => obtain ⟨ks, rfl, _⟩ := key_tup h; rfl
  | str x => cases h; rfl
  | non => exact absurd hk (by show ¬ 2 ≤ 1; decide)
  | bl _ => exact absurd hk (by show ¬ 2 ≤ 1; decide)
  | int _ => exact absurd hk (by show ¬ 2 ≤ 1; decide)
  | lst _ => cases h
  | dct _ => cases h
  | set _ => cases h
  | ins _ _ => cases h
theorem repD_get {F G : Hp} : ∀ {kvs : List (T × T)} {es : List Ent}, RepD Γ F G kvs es → ∀ (k : T) {nk : NestedKey}, keyOf k = some nk → match look kvs k with
    | some w => ∃ v, valE es nk = some v ∧ Rep Γ F G w v
    | none => valE es nk = none
  | [], es, h, k, nk, hk => by cases h; rfl
  | (k0, x) :: kvs, es, h, k, nk, hk => by
    obtain ⟨n0, kv, v, r, rfl, h1, h2, h3, h4⟩ := h
    have e := key_eq h1 hk
    have ih := repD_get h4 k hk
    by_cases q : n0 = nk
    · have e' : tEq k0 k = true := by rw [e]; exact decide_eq_true q
      have l : look ((k0, x) :: kvs) k = some x := by simp [look, List.find?_cons, e']
      rw [l]
      exact ⟨v, valE_pos q, h3⟩
    · have e' : tEq k0 k = false := by rw [e]; exact decide_eq_false q
      have l : look ((k0, x) :: kvs) k = look kvs k := by simp [look, List.find?_cons, e']
      rw [l, valE_neg q]
      exact ih
theorem repD_keys {F G : Hp} : ∀ {kvs : List (T × T)} {es : List Ent}, RepD Γ F G kvs es → ∀ (k : T) {nk : NestedKey}, keyOf k = some nk → (kvs.all fun e => decide (knd e.1 = knd k) && decide (dep e.1 ≤ 8)) = true → knd k ≤ 1 → ∀ e ∈ es, Ky Γ G e.1 e.2.1 ∧ kind e.1 = kind nk
  | [], es, h, _, _, _, _, _, e, he => by cases h; cases he
  | (k0, x) :: kvs, es, h, k, nk, hk, ha, hl, e, he => by
    obtain ⟨n0, kv, v, r, rfl, h1, h2, h3, h4⟩ := h
    rw [List.all_cons, Bool.and_eq_true, Bool.and_eq_true, decide_eq_true_eq, decide_eq_true_eq] at ha
    dsimp only at ha
    rcases List.mem_cons.mp he with rfl | he
    · have hd : n0.depth ≤ 8 := by
        have hi : isKey k0 = true ∨ isKey k0 = false := by cases isKey k0 <;> simp
        have : n0.depth = dep k0 := by
          clear ha h4 he h2 h3
          exact depth_key k0 h1
        omega
      exact ⟨⟨hd, F, k0, h1, h2⟩, by rw [kind_of h1 (by omega), kind_of hk hl]; exact ha.1.1⟩
    · exact repD_keys h4 k hk ha.2 hl e he
where
  depth_key : ∀ (t : T) {k : NestedKey}, keyOf t = some k → k.depth = dep t := fun t k h => by
    have : isKey t = true := isKey_of t h
    obtain ⟨k', e1, e2⟩ := key_ok t this
    rw [h] at e1; cases e1; exact e2
  isKey_of : ∀ (t : T) {k : NestedKey}, keyOf t = some k → isKey t = true := fun t k h => isk t h
  isk (t : T) {k : NestedKey} (h : keyOf t = some k) : isKey t = true := by
    have go : (∀ (t : T) (k : NestedKey), keyOf t = some k → isKey t = true) := by
      intro t
      exact T.rec (motive_1 := fun t => ∀ k, keyOf t = some k → isKey t = true) (motive_2 := fun ts => ∀ ks, keysOf ts = some ks → isKeys ts = true) (motive_3 := fun _ => True) (motive_4 := fun _ => True) (motive_5 := fun _ => True) (motive_6 := fun _ => True)
        (fun k h => rfl) (fun b k h => rfl) (fun b k h => rfl) (fun b k h => rfl) (fun xs ih k h => by obtain ⟨ks, _, e⟩ := key_tup h; exact ih ks e) (fun xs _ k h => by cases h) (fun xs _ k h => by cases h) (fun xs _ k h => by cases h) (fun c fs _ k h => by cases h)
        (fun ks h => rfl) (fun x xs ih1 ih2 ks h => by obtain ⟨k, r, _, e1, e2⟩ := keys_cons h; simp only [isKeys, ih1 k e1, ih2 r e2, Bool.and_self])
        True.intro (fun _ _ _ _ => True.intro) True.intro (fun _ _ _ _ => True.intro) (fun _ _ _ _ => True.intro) (fun _ _ _ => True.intro) t
    exact go t k h
/-- asking a dict -/
theorem asks_of {F G H : Hp} {kvs : List (T × T)} {k : T} {v y : V} (hG : Same G H) (hx : Rep Γ F G (.dct kvs) v) (hy : Rep Γ F H k y) (ha : askOk kvs k = true) :
    ∃ a es ep nk, v = .ref a ∧ Asks Γ H a es ep nk y ∧ keyOf k = some nk ∧ RepD Γ F G kvs es := by
  obtain ⟨a, es, ep, rfl, hd, nd, hD⟩ := hx
  simp only [askOk, Bool.and_eq_true, decide_eq_true_eq] at ha
  obtain ⟨⟨⟨h1, h2⟩, h3⟩, h4⟩ := ha
  obtain ⟨nk, e1, e2⟩ := key_ok k h1
  refine ⟨a, es, ep, nk, rfl, ⟨hG _ _ hd, nd, fun e he => ?_, ⟨by omega, F, k, e1, hy⟩, by rw [kind_of e1 h3]; exact h3⟩, e1, hD⟩
  obtain ⟨q1, q2⟩ := repD_keys hD k e1 (by simpa using h4) h3 e he
  exact ⟨q1.mono hG, q2⟩
theorem repL_get {F G : Hp} : ∀ {ts : List T} {vs : List V}, RepL Γ F G ts vs → ts.length = vs.length ∧ ∀ (i : Nat) (t : T), ts[i]? = some t → ∃ v, vs[i]? = some v ∧ Rep Γ F G t v
  | [], vs, h => by cases h; exact ⟨rfl, fun i t h => by simp at h⟩
  | t :: ts, vs, h => by
    obtain ⟨v, r, rfl, h1, h2⟩ := h
    obtain ⟨l, g⟩ := repL_get h2
    refine ⟨by simp [l], fun i t' h => ?_⟩
    cases i with
    | zero => simp at h; subst h; exact ⟨v, rfl, h1⟩
    | succ i => simpa using g i t' (by simpa using h)
theorem repL_at {F G : Hp} {ts : List T} {vs : List V} (h : RepL Γ F G ts vs) {i : Int} {w : T} (hw : pyAt ts i = some w) : ∃ v, atI vs i = some v ∧ Rep Γ F G w v := by
  obtain ⟨l, g⟩ := repL_get h
  unfold pyAt at hw
  cases e : pyIx ts.length i with
  | none => rw [e] at hw; cases hw
  | some j =>
    rw [e] at hw
    obtain ⟨v, h1, h2⟩ := g j w hw
    refine ⟨v, ?_, h2⟩
    show (pyIx vs.length i).bind _ = _
    rw [← l, e]; exact h1
theorem elS_get : ElS Γ (rIxU Γ) oGet := by
  intro F G H x y w vx vy Q hF hG hx hy hf hq
  cases x with
  | lst xs =>
    cases y with
    | int i =>
      cases hy
      obtain ⟨a, vs, rfl, h1, h2⟩ := hx
      obtain ⟨v, e, r⟩ := repL_at h2 hf
      exact .inl (.inl ⟨a, vs, i, v, rfl, rfl, sqL_sub hG h1, e, hq v r⟩)
    | _ => cases hf
  | tup xs =>
    cases y with
    | int i =>
      cases hy
      obtain ⟨a, vs, rfl, h1, h2⟩ := hx
      obtain ⟨v, e, r⟩ := repL_at h2 hf
      exact .inl (.inr (.inl ⟨a, vs, i, v, rfl, rfl, sqT_sub hG h1, e, hq v r⟩))
    | _ => cases hf
  | str z =>
    cases y with
    | int i =>
      cases hx; cases hy
      have hf : (if z.length ≤ szL then (pyAt z.cps.toList i).map fun c => T.str ⟨#[c]⟩ else none) = some w := hf
      split at hf
      · rename_i hl
        cases e : pyAt z.cps.toList i with
        | none => rw [e] at hf; cases hf
        | some c =>
          rw [e] at hf; cases hf
          exact .inl (.inr (.inr ⟨z, i, c, rfl, rfl, by rw [← szL_eq]; exact hl, e, hq _ rfl⟩))
      · cases hf
    | _ => cases hf
  | dct kvs =>
    have hf : (if askOk kvs y = true then look kvs y else none) = some w := by
      cases y <;> exact hf
    split at hf
    · rename_i ha
      obtain ⟨a, es, ep, nk, rfl, g, hk, hD⟩ := asks_of hG hx hy ha
      have := repD_get hD y hk
      rw [hf] at this
      obtain ⟨v, e, r⟩ := this
      exact .inr ⟨a, es, ep, nk, v, rfl, g, e, hq v r⟩
    · cases hf
  | non => cases y <;> cases hf
  | bl _ => cases y <;> cases hf
  | int _ => cases y <;> cases hf
  | set _ => cases y <;> cases hf
  | ins _ _ => cases y <;> cases hf
end
end TL
end
section
set_option Elab.async false
set_option Elab.async false
set_option linter.all false
set_option autoImplicit false
set_option maxRecDepth 100000
set_option maxHeartbeats 4000000
namespace TL
open PySem PySem.Spec L2
section
variable {Γ : Gm} {E : XW} {ms : List Md}
theorem flat_of {F G : Hp} {t : T} {v : V} (h : isScal t = true) (r : Rep Γ F G t v) : flatV v = true := by
  cases t with
  | non => cases r; rfl
  | bl _ => cases r; rfl
  | int _ => cases r; rfl
  | str _ => cases r; rfl
  | _ => cases h
theorem eqV_of {F G : Hp} {x y : T} {vx vy : V} (hx : isScal x = true) (hy : isScal y = true) (rx : Rep Γ F G x vx) (ry : Rep Γ F G y vy) : L2.eqV vx vy = tEq x y := by
  cases x with
  | non => cases rx; cases y with
    | non => cases ry; rfl
    | bl _ => cases ry; rfl
    | int _ => cases ry; rfl
    | str _ => cases ry; rfl
    | _ => cases hy
  | bl _ => cases rx; cases y with
    | non => cases ry; rfl
    | bl _ => cases ry; rfl
    | int _ => cases ry; rfl
    | str _ => cases ry; rfl
    | _ => cases hy
  | int _ => cases rx; cases y with
    | non => cases ry; rfl
    | bl _ => cases ry; rfl
    | int _ => cases ry; rfl
    | str _ => cases ry; rfl
    | _ => cases hy
  | str _ => cases rx; cases y with
    | non => cases ry; rfl
    | bl _ => cases ry; rfl
    | int _ => cases ry; rfl
    | str _ => cases ry; rfl
    | _ => cases hy
  | _ => cases hx
theorem inV_of {F G : Hp} {x : T} {vx : V} (hx : isScal x = true) (rx : Rep Γ F G x vx) : ∀ {ts : List T} {vs : List V}, ts.all isScal = true → RepL Γ F G ts vs → vs.all flatV = true ∧ L2.inV vx vs = ts.any fun y => tEq y x
  | [], vs, _, h => by cases h; exact ⟨rfl, rfl⟩
  | t :: ts, vs, ha, h => by
    obtain ⟨v, r, rfl, h1, h2⟩ := h
    rw [List.all_cons, Bool.and_eq_true] at ha
    obtain ⟨i1, i2⟩ := inV_of hx rx ha.2 h2
    refine ⟨by rw [List.all_cons, flat_of ha.1 h1, i1]; rfl, ?_⟩
    have i2' : (r.any fun y => L2.eqV y vx) = ts.any fun y => tEq y x := i2
    show ((v :: r).any fun y => L2.eqV y vx) = _
    rw [List.any_cons, List.any_cons, i2', eqV_of ha.1 hx h1 rx]
theorem inB_of {F H : Hp} {x y : T} {vx vy : V} {b : Bool} (hx : Rep Γ F H x vx) (hy : Rep Γ F H y vy) (hf : inB x y = some b) :
    (∃ (c : Nat) (z : Str), vx = .str ⟨#[c]⟩ ∧ vy = .str z ∧ b = decide (c ∈ z.cps.toList)) ∨ (∃ p vs, vy = .ref p ∧ (SqL Γ.K H p vs ∨ SqT Γ.K H p vs) ∧ flatV vx = true ∧ vs.all flatV = true ∧ b = L2.inV vx vs) ∨ ∃ a es ep k, vy = .ref a ∧ Asks Γ H a es ep k vx ∧ b = (valE es k).isSome := by
  cases y with
  | str z =>
    cases x with
    | str x =>
      cases hx; cases hy
      have hf : (if x.cps.size = 1 then some (decide (x.cps.toList.headD 0 ∈ z.cps.toList)) else none) = some b := hf
      split at hf
      · rename_i hs
        cases hf
        left
        obtain ⟨⟨l⟩⟩ := x
        match l, hs with
        | [c], _ => exact ⟨c, z, rfl, rfl, rfl⟩
      · cases hf
    | _ => cases hf
  | lst ys =>
    have hf : (if isScal x = true ∧ ys.all isScal = true then some (ys.any fun y => tEq y x) else none) = some b := by cases x <;> exact hf
    split at hf
    · rename_i hc
      cases hf
      obtain ⟨a, vs, rfl, h1, h2⟩ := hy
      obtain ⟨q1, q2⟩ := inV_of hc.1 hx hc.2 h2
      exact .inr (.inl ⟨a, vs, rfl, .inl h1, flat_of hc.1 hx, q1, q2.symm⟩)
    · cases hf
  | tup ys =>
    have hf : (if isScal x = true ∧ ys.all isScal = true then some (ys.any fun y => tEq y x) else none) = some b := by cases x <;> exact hf
    split at hf
    · rename_i hc
      cases hf
      obtain ⟨a, vs, rfl, h1, h2⟩ := hy
      obtain ⟨q1, q2⟩ := inV_of hc.1 hx hc.2 h2
      exact .inr (.inl ⟨a, vs, rfl, .inr h1, flat_of hc.1 hx, q1, q2.symm⟩)
    · cases hf
  | dct kvs =>
    have hf : (if askOk kvs x = true then some (look kvs x).isSome else none) = some b := by cases x <;> exact hf
    split at hf
    · rename_i ha
      cases hf
      obtain ⟨a, es, ep, nk, rfl, g, hk, hD⟩ := asks_of (Same.refl _) hy hx ha
      have := repD_get hD x hk
      refine .inr (.inr ⟨a, es, ep, nk, rfl, g, ?_⟩)
      cases e : look kvs x with
      | none => rw [e] at this; rw [show valE es nk = none from this]; rfl
      | some w => rw [e] at this; obtain ⟨v, q, _⟩ := this; rw [q]; rfl
    · cases hf
  | _ => cases x <;> cases hf
theorem opS_in : OpS Γ (rInU Γ) oIn := by
  intro F H x y w vx vy Q hx hy hf hq
  unfold oIn at hf
  cases e : inB x y with
  | none => rw [e] at hf; cases hf
  | some b =>
    rw [e] at hf; cases hf
    have q := hq _ Rep0.bl
    rcases inB_of hx hy e with ⟨c, z, rfl, rfl, rfl⟩ | ⟨p, vs, rfl, h1, h2, h3, rfl⟩ | ⟨a, es, ep, k, rfl, g, rfl⟩
    · exact .inl ⟨c, z, rfl, rfl, q⟩
    · exact .inr (.inl ⟨p, vs, rfl, h1, h2, h3, q⟩)
    · exact .inr (.inr ⟨a, es, ep, k, rfl, g, q⟩)
theorem opS_notIn : OpS Γ (rNotInU Γ) oNotIn := by
  intro F H x y w vx vy Q hx hy hf hq
  unfold oNotIn at hf
  cases e : inB x y with
  | none => rw [e] at hf; cases hf
  | some b =>
    rw [e] at hf; cases hf
    have q := hq _ Rep0.bl
    rcases inB_of hx hy e with ⟨c, z, rfl, rfl, rfl⟩ | ⟨p, vs, rfl, h1, h2, h3, rfl⟩ | ⟨a, es, ep, k, rfl, g, rfl⟩
    · exact .inl ⟨c, z, rfl, rfl, q⟩
    · exact .inr (.inl ⟨p, vs, rfl, h1, h2, h3, q⟩)
    · exact .inr (.inr ⟨a, es, ep, k, rfl, g, q⟩)
def CallS (Γ : Gm) (r : List V → Hp → VK → Prop) (f : List T → Option T) : Prop := ∀ (F H : Hp) (ts : List T) (w : T) (vs : List V) (Q : VK), RepL Γ F H ts vs → f ts = some w → (∀ v, Rep0 Γ w v → Q v H) → r vs H Q
def NoSlot : List RC → Prop
  | [] => True
  | .slot _ :: _ => False
  | _ :: cs => NoSlot cs
theorem NoSlot.all : ∀ {cs : List RC}, NoSlot cs → ∀ c ∈ cs, ∀ i, c ≠ .slot i
  | [], _, c, hc, _ => by cases hc
  | c :: cs, h, d, hd, i => by
    cases c with
    | slot j => exact (show False from h).elim
    | now =>
      rcases List.mem_cons.mp hd with rfl | hd
      · intro z; cases z
      · exact NoSlot.all (cs := cs) h d hd i
    | sh =>
      rcases List.mem_cons.mp hd with rfl | hd
      · intro z; cases z
      · exact NoSlot.all (cs := cs) h d hd i
    | fz =>
      rcases List.mem_cons.mp hd with rfl | hd
      · intro z; cases z
      · exact NoSlot.all (cs := cs) h d hd i
    | own n =>
      rcases List.mem_cons.mp hd with rfl | hd
      · intro z; cases z
      · exact NoSlot.all (cs := cs) h d hd i
theorem sim_cb {r : List V → Hp → VK → Prop} {f : List T → Option T} {p : Bool} {ta : TA} {e : M (List T)} {cs : List RC} (hr : CallS Γ r f) (ha : SimA Γ E ms p ta e cs) (hn : NoSlot cs) : SimE Γ E ms p (tCB r ta) (e >>= fun ts => M.of (f ts)) .fz := by
  intro W τ σ hs Q hF hp
  refine ha W τ σ hs _ hF (Pst.bind1 hp fun W1 ts τ1 g1 hp1 vs hF1 hv => ?_)
  have hl := HasA.now hF1.fr hn.all hv
  cases hf : f ts with
  | none => rw [hf] at hp1; exact hp1.elim
  | some w =>
    rw [hf] at hp1
    exact hr W1.F W1.H ts w vs Q hl hf fun v hv => hp1 W1 Go.refl v ⟨hF1, hv.rep⟩
theorem repD_len {F G : Hp} : ∀ {kvs : List (T × T)} {es : List Ent}, RepD Γ F G kvs es → kvs.length = es.length
  | [], es, h => by cases h; rfl
  | (k, x) :: kvs, es, h => by
    obtain ⟨nk, kv, v, r, rfl, _, _, _, h3⟩ := h
    simp [repD_len h3]
theorem callS_len : CallS Γ (rLenU Γ) fLen := by
  intro F H ts w vs Q hl hf hq
  match ts, hf with
  | [x], hf =>
    obtain ⟨v, r, rfl, h1, h2⟩ := hl
    cases h2
    cases x with
    | str z =>
      cases h1
      obtain ⟨c, rfl⟩ := ite_some (show (if z.length ≤ szL then some (T.int z.length) else none) = some w from hf)
      exact .inl ⟨_, z.length, rfl, ⟨by rw [← szL_eq]; exact c, rfl⟩, hq _ rfl⟩
    | lst xs =>
      cases hf
      obtain ⟨a, vs, rfl, h1, h2⟩ := h1
      rw [(repL_get h2).1] at hq
      exact .inl ⟨_, vs.length, rfl, .inl ⟨vs, h1, rfl⟩, hq _ rfl⟩
    | tup xs =>
      cases hf
      obtain ⟨a, vs, rfl, h1, h2⟩ := h1
      rw [(repL_get h2).1] at hq
      exact .inl ⟨_, vs.length, rfl, .inr ⟨vs, h1, rfl⟩, hq _ rfl⟩
    | dct kvs =>
      cases hf
      obtain ⟨a, es, ep, rfl, h1, h2, h3⟩ := h1
      rw [repD_len h3] at hq
      exact .inr ⟨a, es, ep, rfl, h1, hq _ rfl⟩
    | _ => cases hf
theorem callS_abs : CallS Γ rAbs fAbs := by
  intro F H ts w vs Q hl hf hq
  match ts, hf with
  | [.int i], hf =>
    obtain ⟨v, r, rfl, h1, h2⟩ := hl
    cases h2; cases h1; cases hf
    exact ⟨i, rfl, hq _ rfl⟩
theorem callS_int : CallS Γ rInt1 fInt := by
  intro F H ts w vs Q hl hf hq
  match ts, hf with
  | [.int i], hf =>
    obtain ⟨v, r, rfl, h1, h2⟩ := hl
    cases h2; cases h1; cases hf
    exact .inl ⟨i, rfl, hq _ rfl⟩
  | [.bl b], hf =>
    obtain ⟨v, r, rfl, h1, h2⟩ := hl
    cases h2; cases h1; cases hf
    exact .inr ⟨b, rfl, hq _ rfl⟩
noncomputable def Wd.fix (W : Wd) : Wd := ⟨frz W.F W.H [], join W.B (frz W.F W.H []), W.H⟩
theorem Fr.fix {W : Wd} {S : List Slot} (h : Fr Γ W S) : W.Le W.fix ∧ Fr Γ W.fix S := by
  have fh := h.fb.trans h.bh
  obtain ⟨fps, h1, h2, h3⟩ := h.ex
  refine ⟨⟨frz_f, join_b, fun a o e => ?_⟩, ⟨join_f h.bh (frz_h fh), join_h h.bh (frz_h fh), fps, ?_, h2, fun a ha => ?_⟩⟩
  · have e' : frz W.F W.H [] a = some o := e
    unfold frz at e'
    split at e'
    · exact .inl e'
    · split at e'
      · rename_i hh
        rcases hh with hh | hh
        · cases hh
        · rw [e'] at hh
          exact .inr (.inr hh)
      · cases e'
  · exact pr_keep (W := W) (W' := W.fix) frz_f join_b (fun _ _ q _ => q) h1 fun _ _ _ q => q
  · have hb : W.B a = none := h3 a ha
    refine join_none hb ?_
    show (if _ then _ else _) = _
    rw [if_neg (by rw [h.fb.free hb]; simp), if_neg]
    rintro (hm | hm)
    · cases hm
    · obtain ⟨o, e, m⟩ := pr_there h1 a ha
      rw [e] at hm
      exact hm m
mutual
theorem imm_rep {F H F' : Hp} (hF : Same F F') (ht : ∀ a o, H a = some o → ¬ Mut (some o) → F' a = some o) : ∀ (t : T) {v : V}, imm t = true → Rep Γ F H t v → Rep Γ F' F' t v
  | .non, _, _, h => h
  | .bl _, _, _, h => h
  | .int _, _, _, h => h
  | .str _, _, _, h => h
  | .tup xs, _, hi, h => by
    obtain ⟨a, vs, e, h1, h2⟩ := h
    exact ⟨a, vs, e, sqT_fix ht h1, imms_rep hF ht xs hi h2⟩
  | .lst _, _, hi, _ => by cases hi
  | .dct _, _, hi, _ => by cases hi
  | .set _, _, hi, _ => by cases hi
  | .ins c fs, _, _, h => by
    obtain ⟨a, dx, fv, e, h1, h2, h3⟩ := h
    exact ⟨a, dx, fv, e, hF _ _ h1, hF _ _ h2, RepF.mono hF fs hF h3⟩
theorem imms_rep {F H F' : Hp} (hF : Same F F') (ht : ∀ a o, H a = some o → ¬ Mut (some o) → F' a = some o) : ∀ (ts : List T) {vs : List V}, imms ts = true → RepL Γ F H ts vs → RepL Γ F' F' ts vs
  | [], _, _, h => h
  | x :: xs, _, hi, h => by
    obtain ⟨v, r, e, h1, h2⟩ := h
    simp only [imms, Bool.and_eq_true] at hi
    exact ⟨v, r, e, imm_rep hF ht x hi.1 h1, imms_rep hF ht xs hi.2 h2⟩
end
theorem fix_t {W : Wd} {S : List Slot} (h : Fr Γ W S) : ∀ a o, W.H a = some o → ¬ Mut (some o) → W.fix.F a = some o := fun a o e m => frz_at (h.fb.trans h.bh) (.inr (by unfold isFix; rw [e]; exact m)) e
/-- what is imm counts as frozen -/
theorem SimE.imm {p : Bool} {t : TE} {e : M T} {r : RC} (h : SimE Γ E ms p t e r) : SimE Γ E ms p t (e >>= immC) .fz := by
  intro W τ σ hs Q hF hp
  refine h W τ σ hs _ hF (Pst.bind1 hp fun W1 w τ1 g1 hp1 v hv => ?_)
  unfold immC at hp1
  split at hp1
  · rename_i hi
    have f := hv.fr
    obtain ⟨l, f2⟩ := f.fr.fix
    exact hp1 W1.fix ⟨l, fun _ => ⟨Same.refl _, rfl⟩⟩ v ⟨⟨f2, f.lt, f.lv⟩, imm_rep l.f (fix_t f.fr) w hi hv.now⟩
  · exact hp1.elim
/-- a scalar is whatever one wants -/
theorem repO_scal {F H : Hp} {n : Nat} {t : T} {v : V} (hs : isScal t = true) (h : Rep Γ F H t v) : RepO Γ F H n t v [] := by
  cases n with
  | zero =>
    rw [RepO_zero]
    refine ⟨rfl, ?_⟩
    cases t <;> first | exact h | cases hs
  | succ n => cases t <;> first | exact ⟨rfl, h⟩ | cases hs
theorem SimE.scal {p : Bool} {t : TE} {e : M T} {r : RC} (n : Nat) (h : SimE Γ E ms p t e r) : SimE Γ E ms p t (e >>= scalC) (.own n) := by
  intro W τ σ hs Q hF hp
  refine h W τ σ hs _ hF (Pst.bind1 hp fun W1 w τ1 g1 hp1 v hv => ?_)
  unfold scalC at hp1
  split at hp1
  · rename_i hi
    have f := hv.fr
    refine hp1 W1 Go.refl v ⟨?_, f.lt, f.lv⟩
    have := f.fr.scal (n := n) (repO_scal hi hv.now)
    rwa [List.append_assoc] at this
  · exact hp1.elim
/-- frozen is owned at depth nought -/
theorem SimE.fz0 {p : Bool} {t : TE} {e : M T} (h : SimE Γ E ms p t e .fz) : SimE Γ E ms p t e (.own 0) := by
  intro W τ σ hs Q hF hp
  refine h W τ σ hs Q hF (hp.imp fun W' w τ' g k v hv => k v ⟨?_, hv.1.lt, hv.1.lv⟩)
  have := hv.1.fr.frozen hv.2
  rwa [List.append_assoc] at this
end
end TL
end
section
set_option Elab.async false
set_option Elab.async false
set_option linter.all false
set_option autoImplicit false
set_option maxRecDepth 100000
set_option maxHeartbeats 4000000
namespace TL
open PySem PySem.Spec L2
section
variable {Γ : Gm} {E : XW} {ms : List Md}
theorem upd_sub {H : Hp} {p : Addr} {o : HO} (h : H p = none) : Same H (upd H p o) := Same.new h
theorem upd_sub2 {G H : Hp} {p : Addr} {o : HO} (h : Same G H) : Same (upd G p o) (upd H p o) := fun a u e => by
  by_cases q : a = p
  · subst q; rw [upd_same] at e ⊢; exact e
  · rw [upd_ne q] at e ⊢; exact h _ _ e
/-- a new thing, shared at once -/
theorem Fr.newB {W : Wd} {S : List Slot} (h : Fr Γ W S) {p : Addr} (o : HO) (hp : W.H p = none) : W.Le ⟨W.F, upd W.B p o, upd W.H p o⟩ ∧ Fr Γ ⟨W.F, upd W.B p o, upd W.H p o⟩ S := by
  have hb := h.bh.free hp
  obtain ⟨fps, h1, h2, h3⟩ := h.ex
  refine ⟨⟨Same.refl _, upd_sub hb, fun a u e => .inl e⟩, ⟨h.fb.trans (upd_sub hb), upd_sub2 h.bh, fps, ?_, h2, fun a ha => ?_⟩⟩
  · exact pr_keep (W := W) (W' := ⟨W.F, upd W.B p o, upd W.H p o⟩) (Same.refl _) (upd_sub hb) (fun a u q _ => upd_sub hp _ _ q) h1 fun a _ u q => upd_sub hp _ _ q
  · obtain ⟨u, q, _⟩ := pr_there h1 a ha
    show upd W.B p o a = none
    rw [upd_ne (ne_of_none q hp)]
    exact h3 a ha
/-- a new thing, frozen at once -/
theorem Fr.newF {W : Wd} {S : List Slot} (h : Fr Γ W S) {p : Addr} (o : HO) (hp : W.H p = none) : W.Le ⟨upd W.F p o, upd W.B p o, upd W.H p o⟩ ∧ Fr Γ ⟨upd W.F p o, upd W.B p o, upd W.H p o⟩ S := by
  have hb := h.bh.free hp
  have hf := h.fb.free hb
  obtain ⟨fps, h1, h2, h3⟩ := h.ex
  refine ⟨⟨upd_sub hf, upd_sub hb, fun a u e => ?_⟩, ⟨upd_sub2 h.fb, upd_sub2 h.bh, fps, ?_, h2, fun a ha => ?_⟩⟩
  · by_cases q : a = p
    · subst q; exact .inr (.inl hb)
    · left
      have e' : upd W.F p o a = some u := e
      rw [upd_ne q] at e'; exact e'
  · exact pr_keep (W := W) (W' := ⟨upd W.F p o, upd W.B p o, upd W.H p o⟩) (upd_sub hf) (upd_sub hb) (fun a u q _ => upd_sub hp _ _ q) h1 fun a _ u q => upd_sub hp _ _ q
  · obtain ⟨u, q, _⟩ := pr_there h1 a ha
    show upd W.B p o a = none
    rw [upd_ne (ne_of_none q hp)]
    exact h3 a ha
def All (c : RC) : List RC → Prop
  | [] => True
  | d :: cs => d = c ∧ All c cs
theorem hasA_fz {W : Wd} {σ : St} : ∀ {cs : List RC} {ts : List T} {vs : List V}, All .fz cs → HasA Γ W σ cs ts vs → RepL Γ W.F W.F ts vs
  | [], [], [], _, _ => rfl
  | c :: cs, t :: ts, v :: vs, ha, h => by
    obtain ⟨rfl, ha⟩ := ha
    exact ⟨v, vs, rfl, h.1, hasA_fz ha h.2⟩
  | [], [], _ :: _, _, h => h.elim
  | [], _ :: _, _, _, h => h.elim
  | _ :: _, [], _, _, h => h.elim
  | _ :: _, _ :: _, [], _, h => h.elim
def Shs : List RC → Prop
  | [] => True
  | .fz :: cs => Shs cs
  | .sh :: cs => Shs cs
  | _ => False
theorem hasA_sh {W : Wd} {σ : St} (fb : Same W.F W.B) : ∀ {cs : List RC} {ts : List T} {vs : List V}, Shs cs → HasA Γ W σ cs ts vs → RepL Γ W.F W.B ts vs
  | [], [], [], _, _ => rfl
  | c :: cs, t :: ts, v :: vs, ha, h => by
    cases c with
    | fz => exact ⟨v, vs, rfl, Rep.mono (Same.refl _) t fb h.1, hasA_sh fb (show Shs cs from ha) h.2⟩
    | sh => exact ⟨v, vs, rfl, h.1, hasA_sh fb (show Shs cs from ha) h.2⟩
    | now => exact (show False from ha).elim
    | own n => exact (show False from ha).elim
    | slot n => exact (show False from ha).elim
  | [], [], _ :: _, _, h => h.elim
  | [], _ :: _, _, _, h => h.elim
  | _ :: _, [], _, _, h => h.elim
  | _ :: _, _ :: _, [], _, h => h.elim
theorem len_le {ts : List T} {vs : List V} {F G : Hp} (h : RepL Γ F G ts vs) (hl : ts.length ≤ szL) : vs.length ≤ sizeLine := by rw [← (repL_get h).1, ← szL_eq]; exact hl
theorem sim_tup_fz {p : Bool} {ta : TA} {e : M (List T)} {cs : List RC} (ha : SimA Γ E ms p ta e cs) (hc : All .fz cs) : SimE Γ E ms p (tTup ta) (e >>= fun ts => M.of (oTup ts)) .fz := by
  intro W τ σ hs Q hF hp
  refine ha W τ σ hs _ hF (Pst.bind1 hp fun W1 ts τ1 g1 hp1 vs hF1 hv => ?_)
  have hl := hasA_fz hc hv
  unfold oTup at hp1
  split at hp1
  · rename_i hz
    refine ⟨len_le hl hz, fun q hq => ?_⟩
    obtain ⟨l, f⟩ := hF1.fr.newF (.tup vs) hq
    have := hp1 _ ⟨l, fun _ => ⟨upd_sub hq, rfl⟩⟩ (.ref q) ⟨⟨f, hF1.lt, hF1.lv⟩, q, vs, rfl, .inl (.inl upd_same), RepL.mono l.f ts l.f hl⟩
    exact this
  · exact hp1.elim
theorem sim_tup_sh {p : Bool} {ta : TA} {e : M (List T)} {cs : List RC} (ha : SimA Γ E ms p ta e cs) (hc : Shs cs) : SimE Γ E ms p (tTup ta) (e >>= fun ts => M.of (oTup ts)) .sh := by
  intro W τ σ hs Q hF hp
  refine ha W τ σ hs _ hF (Pst.bind1 hp fun W1 ts τ1 g1 hp1 vs hF1 hv => ?_)
  have hl := hasA_sh hF1.fr.fb hc hv
  unfold oTup at hp1
  split at hp1
  · rename_i hz
    refine ⟨len_le hl hz, fun q hq => ?_⟩
    obtain ⟨l, f⟩ := hF1.fr.newB (.tup vs) hq
    have := hp1 _ ⟨l, fun _ => ⟨upd_sub hq, rfl⟩⟩ (.ref q) ⟨⟨f, hF1.lt, hF1.lv⟩, q, vs, rfl, .inl (.inl upd_same), RepL.mono l.f ts l.b hl⟩
    exact this
  · exact hp1.elim
theorem repOL_zero {F H : Hp} : ∀ {ts : List T} {vs : List V}, RepL Γ F F ts vs → RepOL Γ F H 0 ts vs []
  | [], vs, h => by cases h; exact ⟨rfl, rfl⟩
  | t :: ts, vs, h => by
    obtain ⟨v, r, rfl, h1, h2⟩ := h
    exact ⟨v, r, [], [], rfl, rfl, by rw [RepO_zero]; exact ⟨rfl, h1⟩, repOL_zero h2⟩
theorem of_repOL_zero {F H : Hp} : ∀ {ts : List T} {vs : List V} {fp : List Addr}, RepOL Γ F H 0 ts vs fp → fp = [] ∧ RepL Γ F F ts vs
  | [], vs, fp, h => ⟨h.2, h.1⟩
  | t :: ts, vs, fp, h => by
    obtain ⟨v, r, p, q, rfl, rfl, h1, h2⟩ := h
    rw [RepO_zero] at h1
    obtain ⟨e, h3⟩ := of_repOL_zero h2
    exact ⟨by rw [h1.1, e]; rfl, v, r, rfl, h1.2, h3⟩
/-- a new list of frozen things -/
theorem Fr.newL {W : Wd} {S : List Slot} (h : Fr Γ W S) {p : Addr} (hp : W.H p = none) {ts : List T} {vs : List V} (hl : RepL Γ W.F W.F ts vs) : Fr Γ ⟨W.F, W.B, upd W.H p (.lst vs)⟩ (S ++ [(.own 1, some (.lst ts), some (.ref p))]) :=
  h.new (H' := upd W.H p (.lst vs)) (upd_sub hp) (fp := [p]) ⟨p, vs, [], rfl, upd_same, rfl, repOL_zero hl⟩ (by simp) fun a ha => by
    rw [List.mem_singleton.mp ha]; exact hp
theorem grow_le {W : Wd} {H' : Hp} : W.Le ⟨W.F, W.B, H'⟩ := ⟨Same.refl _, Same.refl _, fun _ _ h => .inl h⟩
theorem sim_lst {p : Bool} {ta : TA} {e : M (List T)} {cs : List RC} (ha : SimA Γ E ms p ta e cs) (hc : All .fz cs) : SimE Γ E ms p (tLst ta) (e >>= fun ts => M.of (oLst ts)) (.own 1) := by
  intro W τ σ hs Q hF hp
  refine ha W τ σ hs _ hF (Pst.bind1 hp fun W1 ts τ1 g1 hp1 vs hF1 hv => ?_)
  have hl := hasA_fz hc hv
  unfold oLst at hp1
  split at hp1
  · rename_i hz
    refine ⟨len_le hl hz, fun q hq => ?_⟩
    exact hp1 ⟨W1.F, W1.B, upd W1.H q (.lst vs)⟩ ⟨grow_le, fun _ => ⟨upd_sub hq, rfl⟩⟩ (.ref q) ⟨by have := hF1.fr.newL hq hl; rwa [List.append_assoc] at this, hF1.lt, hF1.lv⟩
  · exact hp1.elim
def owns (n : Nat) : List T → List V → List Slot
  | t :: ts, v :: vs => (.own n, some t, some v) :: owns n ts vs
  | _, _ => []
def SimAO (Γ : Gm) (E : XW) (ms : List Md) (n : Nat) (t : TA) (e : M (List T)) : Prop := ∀ W τ σ hs Q, FrS Γ W ms τ σ hs → Pst Γ E ms W σ hs false τ (fun W' ws τ' => ∀ vs, ws.length = vs.length → FrS Γ W' ms τ' σ (hs ++ owns n ws vs) → Q vs W'.H) (e τ) → t σ W.H Q
theorem sim_nilO {n : Nat} : SimAO Γ E ms n tNil (M.pure []) := fun W τ σ hs Q hF hp => hp W Go.refl [] rfl (by simpa [owns] using hF)
theorem Pst.hs {α : Type} {W : Wd} {τ : Tau} {σ : St} {hs hs' : List Slot} {p : Bool} {ok : Wd → α → Tau → Prop} {r : RE α} (hd : ∀ W' τ', FrS Γ W' ms τ' σ hs' → FrS Γ W' ms τ' σ hs) (h : Pst Γ E ms W σ hs p τ ok r) : Pst Γ E ms W σ hs' p τ ok r := by
  cases r with
  | stuck => exact h
  | exc x τ' => exact fun W' cls d g hF => h W' cls d g (hd W' τ' hF)
  | ok a τ' => exact h
theorem FrS.drop {W : Wd} {τ : Tau} {σ : St} {hs hs' : List Slot} (h : FrS Γ W ms τ σ (hs ++ hs')) : FrS Γ W ms τ σ hs := ⟨Fr.pop (S' := hs') (by rw [List.append_assoc]; exact h.fr), h.lt, h.lv⟩
theorem sim_consO {n : Nat} {p : Bool} {ta : TE} {tr : TA} {e : M T} {f : M (List T)} (h1 : SimE Γ E ms p ta e (.own n)) (h2 : SimAO Γ E ms n tr f) : SimAO Γ E ms n (tCons ta tr) (e >>= fun x => f >>= fun xs => M.pure (x :: xs)) := by
  intro W τ σ hs Q hF hp
  refine h1.impure W τ σ hs _ hF ?_
  have hp' : Pst Γ E ms W σ hs (false && false) τ (fun W' ws τ' => ∀ vs, ws.length = vs.length → FrS Γ W' ms τ' σ (hs ++ owns n ws vs) → Q vs W'.H) ((e >>= fun x => f >>= fun xs => M.pure (x :: xs)) τ) := hp
  refine Pst.bind hp' fun W1 x τ1 g1 hp1 vx hx => ?_
  have hx' : FrS Γ W1 ms τ1 σ (hs ++ [(.own n, some x, some vx)]) := hx
  refine h2 W1 τ1 σ _ _ hx' (Pst.hs (hs := hs) (fun _ _ h => h.drop) (Pst.bind1 hp1 fun W2 xs τ2 g2 hp2 vs hl hF2 => ?_))
  refine hp2 W2 Go.refl (vx :: vs) (by simp [hl]) ?_
  rw [List.append_assoc] at hF2
  exact hF2
theorem owns_gather {W : Wd} {n : Nat} : ∀ {ws : List T} {vs : List V} {fps : List (List Addr)}, ws.length = vs.length → Paired (SlotOk Γ W) (owns n ws vs) fps → RepOL Γ W.F W.H n ws vs fps.flatten
  | [], [], _, _, h => by cases h; exact ⟨rfl, rfl⟩
  | w :: ws, v :: vs, _, hl, h => by
    cases h with
    | cons r t => exact ⟨v, vs, _, _, rfl, by rw [List.flatten_cons], r, owns_gather (by simpa using hl) t⟩
  | [], _ :: _, _, hl, _ => by simp at hl
  | _ :: _, [], _, hl, _ => by simp at hl
theorem sim_lstO {n : Nat} {ta : TA} {e : M (List T)} (ha : SimAO Γ E ms n ta e) : SimE Γ E ms false (tLst ta) (e >>= fun ts => M.of (oLst ts)) (.own (n + 1)) := by
  intro W τ σ hs Q hF hp
  refine ha W τ σ hs _ hF (Pst.bind1 hp fun W1 ts τ1 g1 hp1 vs hl hF1 => ?_)
  unfold oLst at hp1
  split at hp1
  · rename_i hz
    refine ⟨by rw [← hl, ← szL_eq]; exact hz, fun q hq => ?_⟩
    refine hp1 ⟨W1.F, W1.B, upd W1.H q (.lst vs)⟩ ⟨grow_le, fun _ => ⟨upd_sub hq, rfl⟩⟩ (.ref q) ⟨?_, hF1.lt, hF1.lv⟩
    have hfr := hF1.fr
    rw [← List.append_assoc] at hfr
    obtain ⟨fps, h1, h2, h3⟩ := hfr.ex
    obtain ⟨m1, m2, rfl, k1, k2⟩ := pr_split h1
    have ko := owns_gather hl k2
    rw [List.flatten_append, List.nodup_append] at h2
    have hk : ∀ a ∈ m2.flatten, ∀ o, W1.H a = some o → upd W1.H q (.lst vs) a = some o := fun a _ o e => upd_sub hq _ _ e
    have notq : ∀ a ∈ m1.flatten ++ m2.flatten, a ≠ q := fun a ha e => by
      rcases List.mem_append.mp ha with ha | ha
      · obtain ⟨u, z, _⟩ := pr_there k1 a ha; rw [e, hq] at z; cases z
      · obtain ⟨u, z, _⟩ := pr_there k2 a ha; rw [e, hq] at z; cases z
    rw [← List.append_assoc]
    refine ⟨hfr.fb, hfr.bh.trans (upd_sub hq), m1 ++ [q :: m2.flatten], pr_app (pr_keep (W := W1) (W' := ⟨W1.F, W1.B, upd W1.H q (.lst vs)⟩) (Same.refl _) (Same.refl _) (fun a o e _ => upd_sub hq _ _ e) k1 fun a _ o e => upd_sub hq _ _ e) (.cons ?_ .nil), ?_, ?_⟩
    · exact ⟨q, vs, m2.flatten, rfl, upd_same, rfl, RepOL.keep (Same.refl _) (fun a o e _ => upd_sub hq _ _ e) ts hk ko⟩
    · rw [List.flatten_append, List.nodup_append]
      simp only [List.flatten_cons, List.flatten_nil, List.append_nil]
      refine ⟨h2.1, List.nodup_cons.mpr ⟨fun hm => notq q (List.mem_append_right _ hm) rfl, h2.2.1⟩, fun a ha b hb e => ?_⟩
      rcases List.mem_cons.mp hb with rfl | hb
      · exact notq a (List.mem_append_left _ ha) e
      · exact h2.2.2 a ha b hb e
    · intro a ha
      rw [List.flatten_append] at ha
      simp only [List.flatten_cons, List.flatten_nil, List.append_nil] at ha
      rcases List.mem_append.mp ha with ha | ha
      · exact h3 a (by rw [List.flatten_append]; exact List.mem_append_left _ ha)
      · rcases List.mem_cons.mp ha with rfl | ha
        · exact hfr.bh.free hq
        · exact h3 a (by rw [List.flatten_append]; exact List.mem_append_right _ ha)
  · exact hp1.elim
end
end TL
end
section
set_option Elab.async false
set_option Elab.async false
set_option linter.all false
set_option autoImplicit false
set_option maxRecDepth 100000
set_option maxHeartbeats 4000000
namespace TL
open PySem PySem.Spec L2
section
variable {Γ : Gm} {E : XW} {ms : List Md}
theorem Fr.head2 {W : Wd} {s t : Slot} {R : List Slot} (h : Fr Γ W (s :: t :: R)) : ∃ fs ft, SlotOk Γ W s fs ∧ SlotOk Γ W t ft ∧ (fs ++ ft).Nodup ∧ (∀ a ∈ fs ++ ft, W.B a = none) ∧
    ∀ (H' : Hp) (s' : Slot) (fp' : List Addr), (∀ a o, a ∉ fs ++ ft → W.H a = some o → H' a = some o) → SlotOk Γ { W with H := H' } s' fp' → fp'.Nodup → (∀ a ∈ fp', a ∈ fs ++ ft ∨ W.H a = none) → Fr Γ { W with H := H' } (s' :: R) := by
  obtain ⟨fps, h1, h2, h3⟩ := h.ex
  cases h1 with
  | @cons _ fs _ _ r1 h1 =>
  cases h1 with
  | @cons _ ft _ fr r2 h1 =>
  rw [List.flatten_cons, List.flatten_cons, ← List.append_assoc] at h2 h3
  rw [List.nodup_append] at h2
  obtain ⟨n1, n2, dis⟩ := h2
  refine ⟨fs, ft, r1, r2, n1, fun a ha => h3 a (List.mem_append_left _ ha), fun H' s' fp' hk hok hn hf => ?_⟩
  have mu : ∀ a ∈ fs ++ ft, ∃ o, W.H a = some o ∧ Mut (some o) := fun a ha => by
    rcases List.mem_append.mp ha with ha | ha
    · exact r1.there a ha
    · exact r2.there a ha
  have ht : ∀ a o, W.H a = some o → ¬ Mut (some o) → H' a = some o := fun a o e nm => hk a o (fun hm => by
    obtain ⟨o', e', m⟩ := mu a hm
    rw [e] at e'; cases e'; exact nm m) e
  have hr : ∀ a ∈ fr.flatten, a ∉ fs ++ ft := fun a ha hm => dis a hm a ha rfl
  refine ⟨h.fb, fun a o e => hk a o (fun hm => ?_) (h.bh _ _ e), fp' :: fr, .cons hok (pr_keep (W := W) (W' := { W with H := H' }) (Same.refl _) (Same.refl _) ht h1 fun a ha o e => hk a o (hr a ha) e), ?_, ?_⟩
  · have e' : W.B a = some o := e
    rw [h3 a (List.mem_append_left _ hm)] at e'; cases e'
  · rw [List.flatten_cons, List.nodup_append]
    refine ⟨hn, n2, fun a ha b hb e => ?_⟩
    subst e
    rcases hf a ha with hm | hm
    · exact hr a hb hm
    · obtain ⟨o, e, _⟩ := pr_there h1 a hb
      rw [hm] at e; cases e
  · intro a ha
    rw [List.flatten_cons] at ha
    rcases List.mem_append.mp ha with ha | ha
    · rcases hf a ha with hm | hm
      · exact h3 a (List.mem_append_left _ hm)
      · exact h.bh.free hm
    · exact h3 a (List.mem_append_right _ ha)
theorem erase_perm {S : List Slot} {i : Nat} {s : Slot} (h : S[i]? = some s) : S.Perm (s :: S.eraseIdx i) := by
  induction S generalizing i with
  | nil => simp at h
  | cons a S ih =>
    cases i with
    | zero => simp at h; subst h; simp
    | succ i =>
      have := ih (i := i) (by simpa using h)
      simp only [List.eraseIdx_cons_succ]
      exact (List.Perm.cons a this).trans (List.Perm.swap _ _ _)
theorem set_perm {S : List Slot} {i : Nat} (s' : Slot) (h : i < S.length) : (S.set i s').Perm (s' :: S.eraseIdx i) := by
  induction S generalizing i with
  | nil => simp at h
  | cons a S ih =>
    cases i with
    | zero => simp
    | succ i =>
      have := ih (i := i) (by simpa using h)
      simp only [List.eraseIdx_cons_succ, List.set_cons_succ]
      exact (List.Perm.cons a this).trans (List.Perm.swap _ _ _)
/-- slot i and a temporary become slot i anew -/
theorem FrS.merge {W : Wd} {τ : Tau} {σ : St} {hs : List Slot} {n i : Nat} {m : Md} {w x : T} {v vx : V} (h : FrS Γ W ms τ σ (hs ++ [(.own n, some w, some v)])) (hm : ms[i]? = some m) (hx : τ[i]? = some (some x)) (hv : σ[i]? = some (some vx)) :
    ∃ fs ft, SlotOk Γ W (m, some x, some vx) fs ∧ RepO Γ W.F W.H n w v ft ∧ (fs ++ ft).Nodup ∧ (∀ a ∈ fs ++ ft, W.B a = none) ∧ ∀ (H' : Hp) (y : T) (fp' : List Addr), (∀ a o, a ∉ fs ++ ft → W.H a = some o → H' a = some o) → SlotOk Γ { W with H := H' } (m, some y, some vx) fp' → fp'.Nodup → (∀ a ∈ fp', a ∈ fs ++ ft ∨ W.H a = none) → FrS Γ { W with H := H' } ms (τ.set i (some y)) σ hs := by
  have hg := sl_get hm hx hv
  have hl := sl_len h.lt h.lv
  obtain ⟨hi, _⟩ := List.getElem?_eq_some_iff.mp hm
  have hg' : (sl ms τ σ ++ hs)[i]? = some (m, some x, some vx) := by rw [List.getElem?_append_left (by omega)]; exact hg
  have p1 : (sl ms τ σ ++ (hs ++ [(Md.own n, some w, some v)])).Perm ((m, some x, some vx) :: (.own n, some w, some v) :: (sl ms τ σ ++ hs).eraseIdx i) := by
    rw [← List.append_assoc]
    refine (List.Perm.append_right _ (erase_perm hg')).trans ?_
    exact List.Perm.cons _ (List.perm_append_comm (l₂ := [_]))
  obtain ⟨fs, ft, r1, r2, h2, h3, h4⟩ := (h.fr.perm p1).head2
  refine ⟨fs, ft, r1, r2, h2, h3, fun H' y fp' hk hok hn hf => ⟨?_, by rw [List.length_set]; exact h.lt, h.lv⟩⟩
  have := (h4 H' (m, some y, some vx) fp' hk hok hn hf).perm (set_perm (i := i) _ (by rw [List.length_append]; omega)).symm
  rw [List.set_append_left _ _ (by omega), sl_set _ _ hm, set_self hv] at this
  exact this
/-- slots that are lists of one's own -/
def OwnM (n : Nat) : Md → Prop
  | .own k => k = n
  | .lent k => k = n
  | .sh => False
  | .obj => False
  | .ex _ _ => False
theorem ownM_ok {W : Wd} {n : Nat} {m : Md} (h : OwnM n m) {t : T} {v : V} {fp : List Addr} : SlotOk Γ W (m, some t, some v) fp ↔ RepO Γ W.F W.H n t v fp := by
  cases m with
  | sh => exact (show False from h).elim
  | obj => exact (show False from h).elim
  | ex _ _ => exact (show False from h).elim
  | own k => have e : k = n := h; subst e; exact Iff.rfl
  | lent k => have e : k = n := h; subst e; exact Iff.rfl
theorem repOL_snoc {F H : Hp} {n : Nat} {w : T} {v : V} {fw : List Addr} (hw : RepO Γ F H n w v fw) : ∀ {ts : List T} {vs : List V} {fp : List Addr}, RepOL Γ F H n ts vs fp → RepOL Γ F H n (ts ++ [w]) (vs ++ [v]) (fp ++ fw)
  | [], vs, fp, h => by
    obtain ⟨rfl, rfl⟩ := h
    exact ⟨v, [], fw, [], rfl, by simp, hw, rfl, rfl⟩
  | t :: ts, vs, fp, h => by
    obtain ⟨u, r, p, q, rfl, rfl, h1, h2⟩ := h
    exact ⟨u, r ++ [v], p, q ++ fw, rfl, by simp, h1, repOL_snoc hw h2⟩
theorem repOL_get {F H : Hp} {n : Nat} : ∀ {ts : List T} {vs : List V} {fp : List Addr}, RepOL Γ F H n ts vs fp → ts.length = vs.length ∧ ∀ (j : Nat) (t : T), ts[j]? = some t → ∃ v p q r, vs[j]? = some v ∧ fp = p ++ q ++ r ∧ RepO Γ F H n t v q ∧
      ∀ (F' H' : Hp) (w : T) (u : V) (q' : List Addr), Same F F' → (∀ a o, H a = some o → ¬ Mut (some o) → H' a = some o) → (∀ a ∈ p ++ r, ∀ o, H a = some o → H' a = some o) → RepO Γ F' H' n w u q' → RepOL Γ F' H' n (ts.set j w) (vs.set j u) (p ++ q' ++ r)
  | [], vs, fp, h => by
    obtain ⟨rfl, rfl⟩ := h
    exact ⟨rfl, fun j t h => by simp at h⟩
  | t :: ts, vs, fp, h => by
    obtain ⟨u, r, p, q, rfl, rfl, h1, h2⟩ := h
    obtain ⟨l, g⟩ := repOL_get h2
    refine ⟨by simp [l], fun j t' hj => ?_⟩
    cases j with
    | zero =>
      simp at hj; subst hj
      refine ⟨u, [], p, q, rfl, by simp, h1, fun F' H' w u' q' hF ht hk hw => ?_⟩
      exact ⟨u', r, q', q, rfl, by simp, hw, RepOL.keep hF ht ts (fun a ha => hk a (by simp [ha])) h2⟩
    | succ j =>
      obtain ⟨v, p2, q2, r2, e1, rfl, e3, e4⟩ := g j t' (by simpa using hj)
      refine ⟨v, p ++ p2, q2, r2, by simpa using e1, by simp, e3, fun F' H' w u' q' hF ht hk hw => ?_⟩
      refine ⟨u, r.set j u', p, p2 ++ q' ++ r2, rfl, by simp, RepO.keep hF ht t (fun a ha => hk a (by simp [ha])) h1, e4 F' H' w u' q' hF ht (fun a ha => hk a ?_) hw⟩
      rcases List.mem_append.mp ha with ha | ha <;> simp [ha]
/-- x.append(e) -/
theorem sim_append {n i : Nat} {m : Md} {p : Bool} {te : TE} {e : M T} (hm : ms[i]? = some m) (ho : OwnM (n + 1) m) (he : SimE Γ E ms p te e (.own n)) :
    SimE Γ E ms false (tBM Γ.K "list" rAppend (tVar i) (tCons te tNil)) (get i >>= fun x => asL x >>= fun _ => e >>= fun w => appM i w) .fz := by
  intro W τ σ hs Q hF hp
  change Pst Γ E ms W σ hs false τ _ ((get i τ).next fun x => asL x >>= fun _ => e >>= fun w => appM i w) at hp
  unfold get at hp
  cases ht : τ[i]? with
  | none => rw [ht] at hp; exact hp.elim
  | some ox =>
  cases ox with
  | none => rw [ht] at hp; exact hp.elim
  | some x =>
  rw [ht] at hp
  cases x with
  | lst xs =>
    obtain ⟨vi, fp, hv, _, hsl, _, _⟩ := hF.slot hm ht
    obtain ⟨a, vs, fp', rfl, h1, rfl, h2⟩ := (ownM_ok ho).mp hsl
    refine ⟨.ref a, hv, .inl ⟨rfl, vs, .inl (.inl h1)⟩, ?_⟩
    have hp' : Pst Γ E ms W σ hs false τ (fun W' w τ' => ∀ v, Has Γ W' ms τ' σ hs .fz w v → Q v W'.H) ((e >>= fun w => appM i w) τ) := hp
    refine he.impure W τ σ hs _ hF ?_
    refine Pst.bind (q := false) hp' fun W1 w τ1 g1 hp1 vw hw => ?_
    have hw' : FrS Γ W1 ms τ1 σ (hs ++ [(.own n, some w, some vw)]) := hw
    change Pst Γ E ms W1 σ hs false τ1 _ ((get i τ1).next _) at hp1
    unfold get at hp1
    cases ht1 : τ1[i]? with
    | none => rw [ht1] at hp1; exact hp1.elim
    | some ox =>
    cases ox with
    | none => rw [ht1] at hp1; exact hp1.elim
    | some x1 =>
    rw [ht1] at hp1
    cases x1 with
    | lst xs1 =>
      obtain ⟨fs, ft, r1, r2, nd, hb, h4⟩ := hw'.merge hm ht1 hv
      obtain ⟨a', vs1, fp1, e1, k1, rfl, k2⟩ := (ownM_ok ho).mp r1
      cases e1
      have hp2 : Pst Γ E ms W1 σ hs false τ1 (fun W' w τ' => ∀ v, Has Γ W' ms τ' σ hs .fz w v → Q v W'.H) (((if xs1.length < szL then M.pure () else M.stuck) >>= fun _ => put i (.lst (xs1 ++ [w])) >>= fun _ => M.pure .non) τ1) := hp1
      by_cases hz : xs1.length < szL
      · rw [if_pos hz] at hp2
        have hlen : xs1.length = vs1.length := (repOL_get k2).1
        refine ⟨a, vs1, vw, rfl, rfl, k1, by rw [← hlen, ← szL_eq]; exact hz, ?_⟩
        have keepH : ∀ b o, b ≠ a → W1.H b = some o → upd W1.H a (.lst (vs1 ++ [vw])) b = some o := fun b o hb e => by rw [upd_ne hb]; exact e
        have hnot : a ∉ fp1 ++ ft := by
          rw [List.cons_append, List.nodup_cons] at nd
          exact nd.1
        have mu : Mut (W1.H a) := by rw [k1]; exact True.intro
        have ht' : ∀ b o, W1.H b = some o → ¬ Mut (some o) → upd W1.H a (.lst (vs1 ++ [vw])) b = some o := fun b o e nm => keepH b o (fun z => by subst z; rw [k1] at e; cases e; exact nm True.intro) e
        refine hp2 { W1 with H := upd W1.H a (.lst (vs1 ++ [vw])) } ⟨grow_le, fun z => nomatch z⟩ .non ⟨h4 (upd W1.H a (.lst (vs1 ++ [vw]))) (.lst (xs1 ++ [w])) (a :: (fp1 ++ ft)) ?_ ?_ ?_ ?_, rfl⟩
        · exact fun b o hb e => keepH b o (fun z => hb (by rw [z]; simp)) e
        · refine (ownM_ok ho).mpr ⟨a, vs1 ++ [vw], fp1 ++ ft, rfl, upd_same, rfl, repOL_snoc ?_ ?_⟩
          · exact RepO.keep (Same.refl _) ht' w (fun b hb o e => keepH b o (fun z => hnot (by rw [← z]; simp [hb])) e) r2
          · exact RepOL.keep (Same.refl _) ht' xs1 (fun b hb o e => keepH b o (fun z => hnot (by rw [← z]; simp [hb])) e) k2
        · simpa using nd
        · intro b hb; left; simpa using hb
      · rw [if_neg hz] at hp2; exact hp2.elim
    | _ => exact hp1.elim
  | _ => exact hp.elim
end
end TL
end
section
set_option Elab.async false
set_option Elab.async false
set_option linter.all false
set_option autoImplicit false
set_option maxRecDepth 100000
set_option maxHeartbeats 4000000
namespace TL
open PySem PySem.Spec L2
section
variable {Γ : Gm} {E : XW} {ms : List Md} {rr : RC}
theorem asks_at {F H : Hp} {kvs : List (T × T)} {k : T} {a : Addr} {es : List Ent} {ep : Nat} {y : V} (hd : H a = some (DX Γ.w a es ep)) (nd : (es.map (·.1)).Nodup) (hD : RepD Γ F H kvs es) (hy : Rep Γ F H k y) (ha : askOk kvs k = true) : ∃ nk, Asks Γ H a es ep nk y ∧ keyOf k = some nk := by
  simp only [askOk, Bool.and_eq_true, decide_eq_true_eq] at ha
  obtain ⟨⟨⟨h1, h2⟩, h3⟩, h4⟩ := ha
  obtain ⟨nk, e1, e2⟩ := key_ok k h1
  exact ⟨nk, ⟨hd, nd, fun e he => repD_keys hD k e1 (by simpa using h4) h3 e he, ⟨by omega, F, k, e1, hy⟩, by rw [kind_of e1 h3]; exact h3⟩, e1⟩
theorem repD_app {F G : Hp} : ∀ {kvs kvs' : List (T × T)} {es es' : List Ent}, RepD Γ F G kvs es → RepD Γ F G kvs' es' → RepD Γ F G (kvs ++ kvs') (es ++ es')
  | [], _, es, _, h, h' => by cases h; exact h'
  | (k, x) :: kvs, _, es, _, h, h' => by
    obtain ⟨nk, kv, v, r, rfl, h1, h2, h3, h4⟩ := h
    exact ⟨nk, kv, v, r ++ _, rfl, h1, h2, h3, repD_app h4 h'⟩
theorem look_val {F G : Hp} {kvs : List (T × T)} {es : List Ent} (h : RepD Γ F G kvs es) (k : T) {nk : NestedKey} (hk : keyOf k = some nk) : (valE es nk).isSome = (look kvs k).isSome := by
  have := repD_get h k hk
  cases e : look kvs k with
  | none => rw [e] at this; rw [show valE es nk = none from this]; rfl
  | some w => rw [e] at this; obtain ⟨v, q, _⟩ := this; rw [q]; rfl
theorem repD_put {F G : Hp} {kvs : List (T × T)} {es : List Ent} (h : RepD Γ F G kvs es) {k w : T} {nk : NestedKey} {vk vw : V} (hk : keyOf k = some nk) (rk : Rep Γ F G k vk) (rw' : Rep Γ F G w vw) : RepD Γ F G (store kvs k w) (putE es nk vk vw) := by
  have hv := look_val h k hk
  unfold store putE
  rw [hv]
  split
  · clear hv
    have go : ∀ {kvs : List (T × T)} {es : List Ent}, RepD Γ F G kvs es → RepD Γ F G (kvs.map fun e => if tEq e.1 k = true then (e.1, w) else e) (es.map fun e => if e.1 = nk then (e.1, e.2.1, vw) else e) := by
      intro kvs
      induction kvs with
      | nil => intro es h; cases h; rfl
      | cons k0 kvs ih =>
        obtain ⟨k0, x⟩ := k0
        intro es h
        obtain ⟨n0, kv, v, r, rfl, h1, h2, h3, h4⟩ := h
        have e := key_eq h1 hk
        rw [List.map_cons, List.map_cons]
        by_cases q : n0 = nk
        · have e' : tEq k0 k = true := by rw [e]; exact decide_eq_true q
          rw [if_pos e', if_pos q]
          exact ⟨n0, kv, vw, _, rfl, h1, h2, rw', ih h4⟩
        · have e' : ¬ tEq k0 k = true := by rw [e]; simp [q]
          rw [if_neg e', if_neg q]
          exact ⟨n0, kv, v, _, rfl, h1, h2, h3, ih h4⟩
    exact go h
  · exact repD_app h ⟨nk, vk, vw, [], rfl, hk, rk, rw', rfl⟩
theorem valE_none : ∀ {es : List Ent} {k : NestedKey}, valE es k = none → k ∉ es.map (·.1)
  | [], _, _ => by simp
  | e :: es, k, h => by
    by_cases q : e.1 = k
    · rw [valE_pos q] at h; cases h
    · rw [valE_neg q] at h
      simp only [List.map_cons, List.mem_cons, not_or]
      exact ⟨fun z => q z.symm, valE_none h⟩
theorem putE_nodup {es : List Ent} {k : NestedKey} {kv v : V} (h : (es.map (·.1)).Nodup) : ((putE es k kv v).map (·.1)).Nodup := by
  unfold putE
  split
  · have : (es.map fun e => if e.1 = k then (e.1, e.2.1, v) else e).map (·.1) = es.map (·.1) := by
      rw [List.map_map]
      refine List.map_congr_left fun e _ => ?_
      simp only [Function.comp]
      split <;> rfl
    rw [this]; exact h
  · rename_i hn
    rw [List.map_append, List.nodup_append]
    refine ⟨h, by simp, fun a ha b hb e => ?_⟩
    simp at hb
    subst hb e
    refine valE_none ?_ ha
    cases q : valE es a with
    | none => rfl
    | some x => rw [q] at hn; exact (hn rfl).elim
theorem imm_of_key : ∀ {k : T}, isKey k = true → imm k = true := fun {k} h => by
  have go : ∀ t : T, isKey t = true → imm t = true := fun t =>
    T.rec (motive_1 := fun t => isKey t = true → imm t = true) (motive_2 := fun ts => isKeys ts = true → imms ts = true) (motive_3 := fun _ => True) (motive_4 := fun _ => True) (motive_5 := fun _ => True) (motive_6 := fun _ => True)
      (fun _ => rfl) (fun _ _ => rfl) (fun _ _ => rfl) (fun _ _ => rfl) (fun xs ih h => ih h) (fun xs _ h => by cases h) (fun xs _ h => by cases h) (fun xs _ h => by cases h) (fun c fs _ h => by cases h)
      (fun _ => rfl) (fun x xs ih1 ih2 h => by
        simp only [isKeys, Bool.and_eq_true] at h
        simp only [imms, ih1 h.1, ih2 h.2, Bool.and_self])
      True.intro (fun _ _ _ _ => True.intro) True.intro (fun _ _ _ _ => True.intro) (fun _ _ _ _ => True.intro) (fun _ _ _ => True.intro) t
  exact go k h
theorem FrS.fix {W : Wd} {τ : Tau} {σ : St} {hs : List Slot} (h : FrS Γ W ms τ σ hs) : W.Le W.fix ∧ FrS Γ W.fix ms τ σ hs := ⟨h.fr.fix.1, h.fr.fix.2, h.lt, h.lv⟩
theorem nodup_tail {a : Addr} {p q r fp : List Addr} (nd : (a :: (p ++ q ++ r) ++ fp).Nodup) : (a :: (p ++ fp ++ r)).Nodup := by
  have h : (a :: (p ++ q ++ r) ++ fp).Perm (q ++ (a :: (p ++ fp ++ r))) := by
    have h1 : (p ++ q ++ r).Perm (q ++ (p ++ r)) := by
      refine (List.Perm.append_right _ List.perm_append_comm).trans ?_
      rw [List.append_assoc]
    have h2 : (a :: (p ++ q ++ r) ++ fp).Perm (a :: (q ++ (p ++ r)) ++ fp) := List.Perm.append_right _ (List.Perm.cons _ h1)
    refine h2.trans ?_
    have h3 : (a :: (q ++ (p ++ r)) ++ fp).Perm (a :: (q ++ (p ++ fp ++ r))) := by
      simp only [List.cons_append]
      refine List.Perm.cons _ ?_
      rw [List.append_assoc, List.append_assoc, List.append_assoc]
      refine List.Perm.append_left _ (List.Perm.append_left _ List.perm_append_comm)
    refine h3.trans ?_
    exact List.perm_middle.symm
  have := h.nodup_iff.mp nd
  exact (List.nodup_append.mp this).2.1
/-- slot i [k] = w: what follows -/
theorem setL_step {W : Wd} {τ : Tau} {σ : St} {hs : List Slot} {n i : Nat} {m : Md} {w k : T} {vw vk vi : V} {xs ys : List T} {Q : Hp → Prop} (h : FrS Γ W ms τ σ (hs ++ [(.own n, some w, some vw)])) (hm : ms[i]? = some m) (ho : OwnM (n + 1) m) (hx : τ[i]? = some (some (.lst xs))) (hv : σ[i]? = some (some vi)) (hk : Rep Γ W.F W.H k vk) (hy : setL xs k w = some ys)
    (q : ∀ H', FrS Γ { W with H := H' } ms (τ.set i (some (.lst ys))) σ hs → Q H') : rSetL vi vk vw W.H Q := by
  cases k with
  | int k =>
    cases hk
    have hy : (pyIx xs.length k).map (fun j => xs.set j w) = some ys := hy
    cases hj : pyIx xs.length k with
    | none => rw [hj] at hy; cases hy
    | some j =>
      rw [hj] at hy; cases hy
      obtain ⟨fs, ft, r1, r2, nd, hb, h4⟩ := h.merge hm hx hv
      obtain ⟨a, vs, fp1, rfl, k1, rfl, k2⟩ := (ownM_ok ho).mp r1
      obtain ⟨hl, hg⟩ := repOL_get k2
      have hjl : j < xs.length := by
        unfold pyIx at hj
        split at hj
        · split at hj
          · cases hj; omega
          · cases hj
        · split at hj
          · cases hj; omega
          · cases hj
      obtain ⟨v0, p, q0, r, e1, rfl, e3, e4⟩ := hg j xs[j] (List.getElem?_eq_getElem hjl)
      refine ⟨a, vs, k, j, rfl, rfl, k1, by rw [← hl]; exact hj, ?_⟩
      have keepH : ∀ b o, b ≠ a → W.H b = some o → upd W.H a (.lst (vs.set j vw)) b = some o := fun b o hb e => by rw [upd_ne hb]; exact e
      have hnot : a ∉ p ++ q0 ++ r ++ ft := by
        rw [List.cons_append, List.nodup_cons] at nd
        exact nd.1
      have ht' : ∀ b o, W.H b = some o → ¬ Mut (some o) → upd W.H a (.lst (vs.set j vw)) b = some o := fun b o e nm => keepH b o (fun z => by subst z; rw [k1] at e; cases e; exact nm True.intro) e
      refine q _ (h4 (upd W.H a (.lst (vs.set j vw))) (.lst (xs.set j w)) (a :: (p ++ ft ++ r)) (fun b o hb e => keepH b o (fun z => hb (by rw [z]; simp)) e) ((ownM_ok ho).mpr ⟨a, vs.set j vw, p ++ ft ++ r, rfl, upd_same, rfl, e4 _ _ w vw ft (Same.refl _) ht' (fun b hb o e => keepH b o (fun z => hnot ?_) e) ?_⟩) (nodup_tail nd) fun b hb => .inl ?_)
      · rw [← z]
        rcases List.mem_append.mp hb with hb | hb <;> simp [hb]
      · exact RepO.keep (Same.refl _) ht' w (fun b hb o e => keepH b o (fun z => hnot (by rw [← z]; simp [hb])) e) r2
      · rcases List.mem_cons.mp hb with rfl | hb
        · simp
        · rcases List.mem_append.mp hb with hb | hb
          · rcases List.mem_append.mp hb with hb | hb <;> simp [hb]
          · simp [hb]
  | _ => cases hy
theorem setD_step {W : Wd} {τ : Tau} {σ : St} {hs : List Slot} {n i : Nat} {m : Md} {w k : T} {vw vk vi : V} {kvs : List (T × T)} {Q : Hp → Prop} (h : FrS Γ W ms τ σ (hs ++ [(.own 0, some w, some vw)])) (hm : ms[i]? = some m) (ho : OwnM (n + 1) m) (hx : τ[i]? = some (some (.dct kvs))) (hv : σ[i]? = some (some vi)) (hk : Rep Γ W.F W.H k vk) (ha : askOk kvs k = true) (hz : kvs.length < szL)
    (q : ∀ W' : Wd, W.Le W' → FrS Γ W' ms (τ.set i (some (.dct (store kvs k w)))) σ hs → Q W'.H) : ∃ a es ep nk, vi = .ref a ∧ Asks Γ W.H a es ep nk vk ∧ es.length < sizeLine ∧ ∀ ep', Q (upd W.H a (DX Γ.w a (putE es nk vk vw) ep')) := by
  obtain ⟨l, hF⟩ := h.fix
  obtain ⟨fs, ft, r1, r2, nd, hb, h4⟩ := hF.merge hm hx hv
  have fh : Same W.fix.F W.H := hF.fr.fb.trans hF.fr.bh
  obtain ⟨a, es, ep, rfl, k1, k2, rfl, k3⟩ := (ownM_ok ho).mp r1
  rw [RepO_zero] at r2
  obtain ⟨rfl, r2⟩ := r2
  have hk' : Rep Γ W.fix.F W.H k vk := Rep.mono l.f k (Same.refl _) hk
  obtain ⟨nk, g, e1⟩ := asks_at (F := W.fix.F) k1 k2 (RepD.mono (Same.refl _) kvs fh k3) hk' ha
  have hik : isKey k = true := by
    simp only [askOk, Bool.and_eq_true] at ha
    exact ha.1.1.1
  have hk2 : Rep Γ W.fix.F W.fix.F k vk := imm_rep (Same.refl _) (fun a o e nm => fix_t h.fr a o e nm) k (imm_of_key hik) hk'
  refine ⟨a, es, ep, nk, rfl, g, by rw [← repD_len k3, ← szL_eq]; exact hz, fun ep' => ?_⟩
  refine q { W.fix with H := upd W.H a (DX Γ.w a (putE es nk vk vw) ep') } ⟨l.f, l.b, l.g⟩ (h4 _ (.dct (store kvs k w)) [a] (fun b o hb e => ?_) ((ownM_ok ho).mpr ⟨a, putE es nk vk vw, ep', rfl, upd_same, putE_nodup k2, rfl, repD_put k3 e1 hk2 r2⟩) (by simp) fun b hb => .inl (by simpa using hb))
  rw [upd_ne (fun z => hb (by rw [z]; simp))]
  exact e
theorem getM_ok {i : Nat} {τ : Tau} {f : T → M Ctl} {W : Wd} {σ : St} {hs : List Slot} {D : Ends} (h : PstS Γ E ms rr W σ hs D ((get i >>= f) τ)) : ∃ x, τ[i]? = some (some x) ∧ PstS Γ E ms rr W σ hs D (f x τ) := by
  change PstS Γ E ms rr W σ hs D ((get i τ).next f) at h
  unfold get at h
  cases e : τ[i]? with
  | none => rw [e] at h; exact h.elim
  | some o =>
    cases o with
    | none => rw [e] at h; exact h.elim
    | some x => rw [e] at h; exact ⟨x, rfl, h⟩
theorem PstS.hs {W : Wd} {σ : St} {hs hs' : List Slot} {D : Ends} {r : RE Ctl} (hd : ∀ W' τ' σ', FrS Γ W' ms τ' σ' hs' → FrS Γ W' ms τ' σ' hs) (hq : Back rr) (h : PstS Γ E ms rr W σ hs D r) (hn : ∀ w τ, r ≠ .ok (.rt w) τ) : PstS Γ E ms rr W σ hs' D r := by
  cases r with
  | stuck => exact h
  | exc x τ => exact fun W' σ' cls d g hF hx => h W' σ' cls d g (hd W' τ σ' hF) hx
  | ok c τ =>
    cases c with
    | nx => exact fun W' σ' g hF => h W' σ' g (hd W' τ σ' hF)
    | bk => exact fun W' σ' g hF => h W' σ' g (hd W' τ σ' hF)
    | ct => exact fun W' σ' g hF => h W' σ' g (hd W' τ σ' hF)
    | rt w => exact absurd rfl (hn w τ)
theorem sim_setL {n i : Nat} {m : Md} {p q : Bool} {te tk : TE} {e ek : M T} {rk : RC} (hm : ms[i]? = some m) (ho : OwnM (n + 1) m) (he : SimE Γ E ms p te e (.own n)) (hk : SimE Γ E ms q tk ek rk) : SimS Γ E ms rr (tAsg te (gSub (tVar i) tk (rSetU Γ))) (sSetL i e ek) := by
  intro W τ σ hs D hF hp
  refine he W τ σ hs _ hF (PstS.bind hp fun W1 w τ1 l1 hp1 vw hw => ?_)
  have hw' : FrS Γ W1 ms τ1 σ (hs ++ [(.own n, some w, some vw)]) := hw
  obtain ⟨x0, hx0, hp1⟩ := getM_ok hp1
  obtain ⟨vi, _, hv, _⟩ := hw'.slot hm hx0
  refine ⟨vi, hv, hk W1 τ1 σ _ _ hw' (Pst.hs (hs := hs) (fun _ _ h => h.drop) (PstS.bind hp1 fun W2 k τ2 l2 hp2 vk hvk => ?_))⟩
  have hF2 : FrS Γ W2 ms τ2 σ (hs ++ [(.own n, some w, some vw)]) := hvk.fr
  have hp2' : PstS Γ E ms rr W2 σ hs D ((get i >>= fun x => asL x >>= fun xs => M.of (setL xs k w) >>= fun ys => put i (.lst ys) >>= fun _ => M.pure .nx) τ2) := by
    have : (setML i w k >>= fun _ => (M.pure .nx : M Ctl)) τ2 = (get i >>= fun x => asL x >>= fun xs => M.of (setL xs k w) >>= fun ys => put i (.lst ys) >>= fun _ => M.pure .nx) τ2 := by
      show ((setML i w k) τ2).next _ = ((get i) τ2).next _
      unfold setML
      show (((get i) τ2).next _).next _ = _
      cases h1 : get i τ2 with
      | stuck => rfl
      | exc x τ => rfl
      | ok x τ =>
        cases x with
        | lst xs => cases h2 : setL xs k w with
          | none => simp [RE.next, asL, M.of, h2, bind, M.bind, M.pure, M.stuck]
          | some ys => simp [RE.next, asL, M.of, h2, bind, M.bind, M.pure, put]
        | _ => rfl
    rw [← this]; exact hp2
  obtain ⟨x, hx, hp3⟩ := getM_ok hp2'
  cases x with
  | lst xs =>
    have hp4 : PstS Γ E ms rr W2 σ hs D ((M.of (setL xs k w) >>= fun ys => put i (.lst ys) >>= fun _ => M.pure .nx) τ2) := hp3
    cases hy : setL xs k w with
    | none => rw [hy] at hp4; exact hp4.elim
    | some ys =>
      rw [hy] at hp4
      have hp5 : PstS Γ E ms rr W2 σ hs D (.ok .nx (τ2.set i (some (.lst ys)))) := hp4
      exact .inl (setL_step hF2 hm ho hx hv hvk.now hy fun H' hF' => hp5 _ σ ⟨grow_le, fun _ _ _ => rfl⟩ hF')
  | _ => exact hp3.elim
theorem sim_set1 {i n : Nat} {m : Md} {p q : Bool} {te tk : TE} {e ek : M T} {rk : RC} (hm : ms[i]? = some m) (ho : OwnM (n + 1) m) (hn : n = 0) (he : SimE Γ E ms p te e .fz) (hk : SimE Γ E ms q tk ek rk) : SimS Γ E ms rr (tAsg te (gSub (tVar i) tk (rSetU Γ))) (sSetI i e ek) := by
  subst hn
  intro W τ σ hs D hF hp
  refine he.fz0 W τ σ hs _ hF (PstS.bind hp fun W1 w τ1 l1 hp1 vw hw => ?_)
  have hw' : FrS Γ W1 ms τ1 σ (hs ++ [(.own 0, some w, some vw)]) := hw
  obtain ⟨x0, hx0, hp1⟩ := getM_ok hp1
  obtain ⟨vi, _, hv, _⟩ := hw'.slot hm hx0
  refine ⟨vi, hv, hk W1 τ1 σ _ _ hw' (Pst.hs (hs := hs) (fun _ _ h => h.drop) (PstS.bind hp1 fun W2 k τ2 l2 hp2 vk hvk => ?_))⟩
  have hF2 : FrS Γ W2 ms τ2 σ (hs ++ [(.own 0, some w, some vw)]) := hvk.fr
  have hp2' : PstS Γ E ms rr W2 σ hs D ((get i >>= fun x => M.of (setC x k w) >>= fun y => put i y >>= fun _ => M.pure .nx) τ2) := by
    have : (setM i w k >>= fun _ => (M.pure .nx : M Ctl)) τ2 = (get i >>= fun x => M.of (setC x k w) >>= fun y => put i y >>= fun _ => M.pure .nx) τ2 := by
      show (((get i) τ2).next _).next _ = _
      show _ = ((get i) τ2).next _
      cases h1 : get i τ2 with
      | stuck => rfl
      | exc x τ => rfl
      | ok x τ => cases h2 : setC x k w with
        | none => simp [RE.next, M.of, h2, bind, M.bind, M.pure, M.stuck]
        | some ys => simp [RE.next, M.of, h2, bind, M.bind, M.pure, put]
    rw [← this]; exact hp2
  obtain ⟨x, hx, hp3⟩ := getM_ok hp2'
  cases hy : setC x k w with
  | none => rw [hy] at hp3; exact hp3.elim
  | some y =>
    rw [hy] at hp3
    have hp5 : PstS Γ E ms rr W2 σ hs D (.ok .nx (τ2.set i (some y))) := hp3
    cases x with
    | lst xs =>
      have hy : (setL xs k w).map T.lst = some y := hy
      cases hz : setL xs k w with
      | none => rw [hz] at hy; cases hy
      | some ys =>
        rw [hz] at hy; cases hy
        exact .inl (setL_step hF2 hm ho hx hv hvk.now hz fun H' hF' => hp5 _ σ ⟨grow_le, fun _ _ _ => rfl⟩ hF')
    | dct kvs =>
      have hy : (if askOk kvs k = true ∧ kvs.length < szL then some (T.dct (store kvs k w)) else none) = some y := hy
      obtain ⟨⟨ha, hz⟩, rfl⟩ := ite_some hy
      exact .inr (setD_step hF2 hm ho hx hv hvk.now ha hz fun W' l hF' => hp5 W' σ ⟨l, fun _ _ _ => rfl⟩ hF')
    | _ => cases hy
end
end TL
end
section
set_option Elab.async false
set_option Elab.async false
set_option linter.all false
set_option autoImplicit false
set_option maxRecDepth 100000
set_option maxHeartbeats 4000000
namespace TL
open PySem PySem.Spec L2
section
variable {Γ : Gm} {E : XW} {ms : List Md} {rr : RC}
def Firm (r : RC) : Prop := r = .sh ∨ r = .fz
theorem GOf.le {W W' : Wd} {r : RC} (hr : Firm r) (l : W.Le W') : Same (GOf W r) (GOf W' r) := by
  rcases hr with rfl | rfl
  · exact l.b
  · exact l.f
theorem GOf.h {W : Wd} {S : List Slot} {r : RC} (hr : Firm r) (f : Fr Γ W S) : Same (GOf W r) W.H := by
  rcases hr with rfl | rfl
  · exact f.bh
  · exact f.fb.trans f.bh
theorem Has.firm {W : Wd} {τ : Tau} {σ : St} {hs : List Slot} {r : RC} (hr : Firm r) {t : T} {v : V} (h : Has Γ W ms τ σ hs r t v) : Rep Γ W.F (GOf W r) t v := by
  rcases hr with rfl | rfl
  · exact h.2
  · exact h.2
theorem iter_list {W : Wd} {r : RC} (hr : Firm r) {ts : List T} {a : Addr} {vs : List V} (h1 : SqL Γ.K (GOf W r) a vs) (h2 : RepL Γ W.F (GOf W r) ts vs) : Iter Γ r W (Itl Γ.K a) ts := by
  intro W' S l f
  obtain ⟨hl, hg⟩ := repL_get h2
  have q : SqL Γ.K W'.H a vs := sqL_sub ((GOf.le hr l).trans (GOf.h hr f)) h1
  refine ⟨⟨vs, q, by omega⟩, fun i x hx => ?_⟩
  obtain ⟨v, e, rv⟩ := hg i x hx
  refine ⟨⟨vs, v, q, e⟩, fun v' H' hy => ?_⟩
  obtain ⟨rfl, hy⟩ := hy
  have e' := hy vs q
  rw [e] at e'; cases e'
  exact ⟨W', rfl, .refl _, f, Rep.mono l.f x (GOf.le hr l) rv⟩
theorem iter_tup {W : Wd} {r : RC} (hr : Firm r) {ts : List T} {a : Addr} {vs : List V} (h1 : SqT Γ.K (GOf W r) a vs) (h2 : RepL Γ W.F (GOf W r) ts vs) : Iter Γ r W (Itt Γ.K a) ts := by
  intro W' S l f
  obtain ⟨hl, hg⟩ := repL_get h2
  have q : SqT Γ.K W'.H a vs := sqT_sub ((GOf.le hr l).trans (GOf.h hr f)) h1
  refine ⟨⟨vs, q, by omega⟩, fun i x hx => ?_⟩
  obtain ⟨v, e, rv⟩ := hg i x hx
  refine ⟨⟨vs, v, q, e⟩, fun v' H' hy => ?_⟩
  obtain ⟨rfl, hy⟩ := hy
  have e' := hy vs q
  rw [e] at e'; cases e'
  exact ⟨W', rfl, .refl _, f, Rep.mono l.f x (GOf.le hr l) rv⟩
theorem iter_str {W : Wd} {r : RC} (z : Str) : Iter Γ r W (Its z) (z.cps.toList.map fun c => .str ⟨#[c]⟩) := by
  intro W' S l f
  refine ⟨by show z.cps.size ≤ _; simp, fun i x hx => ?_⟩
  rw [List.getElem?_map] at hx
  cases e : z.cps.toList[i]? with
  | none => rw [e] at hx; cases hx
  | some c =>
    rw [e] at hx; cases hx
    obtain ⟨hi, _⟩ := List.getElem?_eq_some_iff.mp e
    refine ⟨(show i < z.cps.size by simpa using hi), fun v H' hy => ?_⟩
    obtain ⟨rfl, c', hc, rfl⟩ := hy
    rw [← Array.getElem?_toList, e] at hc
    cases hc
    exact ⟨W', rfl, .refl _, f, rfl⟩
theorem repD_at {F G : Hp} : ∀ {kvs : List (T × T)} {es : List Ent}, RepD Γ F G kvs es → ∀ (i : Nat) (p : T × T), kvs[i]? = some p → ∃ e, es[i]? = some e ∧ Rep Γ F G p.1 e.2.1 ∧ Rep Γ F G p.2 e.2.2
  | [], es, h, i, p, hp => by simp at hp
  | (k, x) :: kvs, es, h, i, p, hp => by
    obtain ⟨nk, kv, v, r, rfl, _, h2, h3, h4⟩ := h
    cases i with
    | zero => simp at hp; subst hp; exact ⟨_, rfl, h2, h3⟩
    | succ i => simpa using repD_at h4 i p (by simpa using hp)
theorem iter_dct {W : Wd} {r : RC} (hr : Firm r) {kvs : List (T × T)} {a : Addr} {es : List Ent} {ep : Nat} (h1 : GOf W r a = some (DX Γ.w a es ep)) (h2 : RepD Γ W.F (GOf W r) kvs es) : Iter Γ r W (Itx Γ.w a es ep) (kvs.map (·.1)) := by
  intro W' S l f
  have q : W'.H a = some (DX Γ.w a es ep) := ((GOf.le hr l).trans (GOf.h hr f)) _ _ h1
  have hl := repD_len h2
  refine ⟨⟨q, by simp; omega⟩, fun i x hx => ?_⟩
  rw [List.getElem?_map] at hx
  cases e : kvs[i]? with
  | none => rw [e] at hx; cases hx
  | some p =>
    rw [e] at hx; cases hx
    obtain ⟨en, he, rk, _⟩ := repD_at h2 i p e
    obtain ⟨hi, _⟩ := List.getElem?_eq_some_iff.mp he
    refine ⟨⟨q, hi⟩, fun v H' hy => ?_⟩
    obtain ⟨rfl, en', he', rfl⟩ := hy
    rw [he] at he'; cases he'
    exact ⟨W', rfl, .refl _, f, Rep.mono l.f p.1 (GOf.le hr l) rk⟩
theorem sim_iU {p : Bool} {te : TE} {e : M T} {r : RC} (h : SimE Γ E ms p te e r) (hr : Firm r) : SimI Γ E ms p (iU Γ te) (e >>= fun x => M.of (oElems x)) r := by
  intro W τ σ hs R hF hp
  refine h W τ σ hs _ hF (Pst.bind1 hp fun W1 x τ1 g1 hp1 v hv => ?_)
  have rv := hv.firm hr
  have hF1 := hv.fr
  have gh := GOf.h hr hF1.fr
  cases x with
  | lst xs =>
    obtain ⟨a, vs, rfl, h1, h2⟩ := rv
    exact .inr ⟨a, rfl, .inl ⟨⟨vs, sqL_sub gh h1⟩, hp1 W1 Go.refl _ hF1 (iter_list hr h1 h2)⟩⟩
  | tup xs =>
    obtain ⟨a, vs, rfl, h1, h2⟩ := rv
    exact .inr ⟨a, rfl, .inr (.inl ⟨⟨vs, sqT_sub gh h1⟩, hp1 W1 Go.refl _ hF1 (iter_tup hr h1 h2)⟩)⟩
  | str z =>
    cases rv
    exact .inl ⟨z, rfl, hp1 W1 Go.refl _ hF1 (iter_str z)⟩
  | dct kvs =>
    obtain ⟨a, es, ep, rfl, h1, h2, h3⟩ := rv
    exact .inr ⟨a, rfl, .inr (.inr ⟨es, ep, gh _ _ h1, hp1 W1 Go.refl _ hF1 (iter_dct hr h1 h3)⟩)⟩
  | _ => exact hp1.elim
theorem iter_ints {W : Wd} {r : RC} (lo : Int) (n : Nat) : Iter Γ r W (Itr lo n) (intsL lo n) := by
  intro W' S l f
  refine ⟨by show n ≤ _; simp [intsL], fun i x hx => ?_⟩
  unfold intsL at hx
  rw [List.getElem?_map] at hx
  cases e : (List.range n)[i]? with
  | none => rw [e] at hx; cases hx
  | some j =>
    rw [e] at hx; cases hx
    obtain ⟨hi, hj⟩ := List.getElem?_eq_some_iff.mp e
    simp at hj hi
    subst hj
    refine ⟨hi, fun v H' hy => ?_⟩
    obtain ⟨rfl, rfl⟩ := hy
    exact ⟨W', rfl, .refl _, f, rfl⟩
theorem sim_range1 {p : Bool} {ta : TA} {e : M (List T)} {cs : List RC} {r : RC} (ha : SimA Γ E ms p ta e cs) (hn : NoSlot cs) : SimI Γ E ms p (iRng1 ta) (e >>= fun ts => M.of (fRange1 ts)) r := by
  intro W τ σ hs R hF hp
  refine ha W τ σ hs _ hF (Pst.bind1 hp fun W1 ts τ1 g1 hp1 vs hF1 hv => ?_)
  have hl := HasA.now hF1.fr hn.all hv
  match ts, hp1 with
  | [.int j], hp1 =>
    obtain ⟨v, u, rfl, h1, h2⟩ := hl
    cases h1; cases h2
    have hp2 : Pst Γ E ms W1 σ hs true τ1 (fun W' xs τ' => ∀ J, FrS Γ W' ms τ' σ hs → Iter Γ r W' J xs → R J W'.H) (M.of (if -(2 ^ 62) ≤ j ∧ j < 2 ^ 62 then some (intsL 0 j.toNat) else none) τ1) := hp1
    by_cases hc : -(2 ^ 62) ≤ j ∧ j < 2 ^ 62
    · rw [if_pos hc] at hp2
      exact ⟨j, rfl, hc.1, hc.2, hp2 W1 Go.refl _ hF1 (iter_ints 0 j.toNat)⟩
    · rw [if_neg hc] at hp2; exact hp2.elim
def SimGs (Γ : Gm) (ms : List Md) (g : TGs) (b : List T → M Unit) (r : RC) : Prop := ∀ W τ σ hs xs vs R τ', FrS Γ W ms τ σ hs → RepL Γ W.F (GOf W r) xs vs → b xs τ = .ok () τ' → (∀ W' σ', Nx ms W σ W' σ' → FrS Γ W' ms τ' σ' hs → R σ' W'.H) → g vs σ W.H R
theorem sim_gnil {r : RC} : SimGs Γ ms gNil (puts []) r := by
  intro W τ σ hs xs vs R τ' hF hx hb hR
  cases xs with
  | nil => cases hx; cases hb; exact ⟨rfl, hR W σ .refl hF⟩
  | cons x xs => cases hb
theorem sim_gcons {i : Nat} {m : Md} {r : RC} {is : List Nat} {g : TGs} (hm : ms[i]? = some m) (hr : Into r m) (hk : Firm r) (h : SimGs Γ ms g (puts is) r) : SimGs Γ ms (gCons (gName i) g) (puts (i :: is)) r := by
  intro W τ σ hs xs vs R τ' hF hx hb hR
  cases xs with
  | nil => cases hb
  | cons x xs =>
    obtain ⟨v, u, rfl, h1, h2⟩ := hx
    have hb : (put i x >>= fun _ => puts is xs) τ = .ok () τ' := hb
    have hb : puts is xs (τ.set i (some x)) = .ok () τ' := hb
    refine ⟨v, u, rfl, ?_⟩
    have hF2 : FrS Γ W ms (τ.set i (some x)) (σ.set i (some v)) hs := FrS.set (r := r) (by rcases hk with rfl | rfl <;> exact ⟨hF, h1⟩) hm hr
    refine h W (τ.set i (some x)) (σ.set i (some v)) hs xs u R τ' hF2 h2 hb fun W' σ' nx hF' => hR W' σ' (Nx.trans ⟨.refl _, fun j n hj => ?_⟩ nx) hF'
    by_cases e : i = j
    · subst e
      obtain ⟨hj, hkk⟩ := hj
      rw [hm] at hj; cases hj
      cases m <;> first | (cases hkk; done) | skip
      all_goals (rcases hk with rfl | rfl <;> exact (show False from hr).elim)
    · rw [List.getElem?_set_ne e]
theorem sim_gtup {n : Nat} {r : RC} {is : List Nat} {g : TGs} (hk : Firm r) (hn : is.length = n) (h : SimGs Γ ms g (puts is) r) : SimG Γ ms (gTup Γ.K n g) (putT is) r := by
  intro W τ σ hs x v R τ' hF hx hb hR
  cases x with
  | tup xs =>
    obtain ⟨a, vs, rfl, h1, h2⟩ := hx
    have hb : puts is xs τ = .ok () τ' := hb
    have hl : xs.length = is.length := by
      clear h2 hn h
      induction is generalizing xs τ with
      | nil => cases xs with
        | nil => rfl
        | cons _ _ => cases hb
      | cons i is ih =>
        cases xs with
        | nil => cases hb
        | cons x xs =>
          have hb' : puts is xs (τ.set i (some x)) = .ok () τ' := hb
          have go : ∀ (is : List Nat) (xs : List T) (τ : Tau), puts is xs τ = .ok () τ' → xs.length = is.length := by
            intro is
            induction is with
            | nil => intro xs τ h; cases xs with
              | nil => rfl
              | cons _ _ => cases h
            | cons i is ih =>
              intro xs τ h
              cases xs with
              | nil => cases h
              | cons x xs => simp [ih xs _ (show puts is xs (τ.set i (some x)) = .ok () τ' from h)]
          simp [go is xs _ hb']
    exact ⟨a, vs, rfl, sqT_sub (GOf.h hk hF.fr) h1, by rw [← (repL_get h2).1, hl, hn], h W τ σ hs xs vs R τ' hF h2 hb hR⟩
  | _ => cases hb
theorem put_ne {i : Nat} : ∀ x τ, ∀ y τ', put i x τ ≠ .exc y τ' := fun _ _ _ _ h => by cases h
theorem puts_ne : ∀ (is : List Nat) (xs : List T) (τ : Tau), ∀ y τ', puts is xs τ ≠ .exc y τ'
  | [], [], τ, y, τ', h => by cases h
  | [], _ :: _, τ, y, τ', h => by cases h
  | _ :: _, [], τ, y, τ', h => by cases h
  | i :: is, x :: xs, τ, y, τ', h => puts_ne is xs _ y τ' (show puts is xs (τ.set i (some x)) = .exc y τ' from h)
theorem putT_ne {is : List Nat} : ∀ x τ, ∀ y τ', putT is x τ ≠ .exc y τ' := fun x τ y τ' h => by
  cases x with
  | tup xs => exact puts_ne is xs τ y τ' h
  | _ => cases h
end
end TL
end
section
set_option Elab.async false
set_option Elab.async false
set_option linter.all false
set_option autoImplicit false
set_option maxRecDepth 100000
set_option maxHeartbeats 4000000
namespace TL
open PySem PySem.Spec L2
section
variable {Γ : Gm} {E : XW} {ms : List Md} {rr : RC}
theorem numF_get : ∀ {xs : List T} {k i : Nat} {x : T}, (numberedF k xs)[i]? = some x → ∃ y, xs[i]? = some y ∧ x = .tup [.int ((k + i : Nat) : Int), y]
  | [], _, _, _, h => by simp [numberedF] at h
  | y :: xs, k, 0, x, h => by simp [numberedF] at h; exact ⟨y, rfl, h.symm⟩
  | y :: xs, k, i + 1, x, h => by
    have h' : (numberedF (k + 1) xs)[i]? = some x := by simpa [numberedF] using h
    obtain ⟨z, e, q⟩ := numF_get h'
    refine ⟨z, by simpa using e, ?_⟩
    rw [q]; congr 4; omega
theorem numF_len : ∀ (xs : List T) (k : Nat), (numberedF k xs).length = xs.length
  | [], _ => rfl
  | _ :: xs, k => by simp [numberedF, numF_len xs]
theorem iter_enum {W : Wd} {r : RC} (hr : Firm r) {ts : List T} {a : Addr} {vs : List V} (h1 : SqL Γ.K (GOf W r) a vs ∨ SqT Γ.K (GOf W r) a vs) (h2 : RepL Γ W.F (GOf W r) ts vs) (J : It) (hJ : (J = Ite Γ.K a ∧ SqL Γ.K (GOf W r) a vs) ∨ (J = Ittn Γ.K a ∧ SqT Γ.K (GOf W r) a vs)) : Iter Γ .sh W J (numbered ts) := by
  intro W' S l f
  obtain ⟨hl, hg⟩ := repL_get h2
  have hln : (numbered ts).length = ts.length := numF_len ts 0
  have fin : ∀ (i : Nat) (x : T) (v v' : V) (T0 : Addr) (H' : Hp), ts[i]? = some x → vs[i]? = some v → Rep Γ W.F (GOf W r) x v → W'.H T0 = none → H' = upd W'.H T0 (.tup [.int (i : Nat), v]) → v' = .ref T0 → ∃ W'' : Wd, W''.H = H' ∧ W'.Le W'' ∧ Fr Γ W'' S ∧ Rep Γ W''.F (GOf W'' .sh) (.tup [.int ((0 + i : Nat) : Int), x]) v' := by
    rintro i x v v' T0 H' hx hv rv hT rfl rfl
    obtain ⟨l2, f2⟩ := f.newB (.tup [.int (i : Nat), v]) hT
    refine ⟨_, rfl, l2, f2, T0, [.int (i : Nat), v], rfl, .inl (.inl upd_same), .int (i : Nat), [v], rfl, by rw [Nat.zero_add]; rfl, v, [], rfl, ?_, rfl⟩
    have g1 : Same (GOf W r) W'.B := by
      rcases hr with rfl | rfl
      · exact l.b
      · exact l.f.trans f.fb
    exact Rep.mono (l.f.trans l2.f) x (g1.trans l2.b) rv
  rcases hJ with ⟨rfl, hs⟩ | ⟨rfl, hs⟩
  · have q : SqL Γ.K W'.H a vs := sqL_sub ((GOf.le hr l).trans (GOf.h hr f)) hs
    refine ⟨⟨vs, q, by omega⟩, fun i x hx => ?_⟩
    obtain ⟨y, hy, rfl⟩ := numF_get hx
    obtain ⟨v, e, rv⟩ := hg i y hy
    refine ⟨⟨vs, v, q, e⟩, fun v' H' hY => ?_⟩
    obtain ⟨T0, v2, rfl, hT, rfl, hv2⟩ := hY
    have e2 := hv2 vs q
    rw [e] at e2; cases e2
    exact fin i y v _ T0 _ hy e rv hT rfl rfl
  · have q : SqT Γ.K W'.H a vs := sqT_sub ((GOf.le hr l).trans (GOf.h hr f)) hs
    refine ⟨⟨vs, q, by omega⟩, fun i x hx => ?_⟩
    obtain ⟨y, hy, rfl⟩ := numF_get hx
    obtain ⟨v, e, rv⟩ := hg i y hy
    refine ⟨⟨vs, v, q, e⟩, fun v' H' hY => ?_⟩
    obtain ⟨T0, v2, rfl, hT, rfl, hv2⟩ := hY
    have e2 := hv2 vs q
    rw [e] at e2; cases e2
    exact fin i y v _ T0 _ hy e rv hT rfl rfl
theorem sim_enum {p : Bool} {te : TE} {e : M T} {r : RC} (h : SimE Γ E ms p te e r) (hr : Firm r) : SimI Γ E ms p (iEnumS Γ.K (tCons te tNil)) (e >>= fun x => M.of (fEnum [x])) .sh := by
  intro W τ σ hs R hF hp
  refine h W τ σ hs _ hF (Pst.bind1 hp fun W1 x τ1 g1 hp1 v hv => ?_)
  have rv := hv.firm hr
  have hF1 := hv.fr
  have gh := GOf.h hr hF1.fr
  cases x with
  | lst xs =>
    obtain ⟨a, vs, rfl, h1, h2⟩ := rv
    exact ⟨a, rfl, .inl ⟨⟨vs, sqL_sub gh h1⟩, hp1 W1 Go.refl _ hF1 (iter_enum hr (.inl h1) h2 _ (.inl ⟨rfl, h1⟩))⟩⟩
  | tup xs =>
    obtain ⟨a, vs, rfl, h1, h2⟩ := rv
    exact ⟨a, rfl, .inr ⟨⟨vs, sqT_sub gh h1⟩, hp1 W1 Go.refl _ hF1 (iter_enum hr (.inr h1) h2 _ (.inr ⟨rfl, h1⟩))⟩⟩
  | _ => exact hp1.elim
theorem FrS.wipe {W : Wd} {τ : Tau} {σ : St} {hs : List Slot} : ∀ (vs : List Nat), (∀ v ∈ vs, v < ms.length) → FrS Γ W ms τ σ hs → FrS Γ W ms (wipeT τ vs) (L2.wipe σ vs) hs
  | [], _, h => h
  | v :: vs, hv, h => by
    have ih := FrS.wipe vs (fun u hu => hv u (List.mem_cons_of_mem _ hu)) h
    have hvl := hv v (by simp)
    have hm : ms[v]? = some ms[v] := List.getElem?_eq_getElem hvl
    have hl := sl_len ih.lt ih.lv
    have := ih.fr.forget v ms[v] none
    rw [List.set_append_left _ _ (by omega), sl_set _ _ hm] at this
    exact ⟨this, by unfold wipeT; rw [List.length_set]; exact ih.lt, by unfold L2.wipe; rw [List.length_set]; exact ih.lv⟩
/-- slots that hold nothing may hold any value -/
theorem FrS.other {W : Wd} {τ : Tau} {σ σ' : St} {hs : List Slot} (h : FrS Γ W ms τ σ hs) (hl : σ'.length = ms.length) (he : ∀ (i : Nat) (t : T), τ[i]? = some (some t) → σ'[i]? = σ[i]?) : FrS Γ W ms τ σ' hs := by
  refine ⟨h.fr.weaken (pr_app ?_ (pr_refl (fun _ => .inl rfl) _)), h.lt, hl⟩
  have go : ∀ {ms : List Md} {τ : Tau} {σ σ' : St}, τ.length = ms.length → σ.length = ms.length → σ'.length = ms.length → (∀ (i : Nat) (t : T), τ[i]? = some (some t) → σ'[i]? = σ[i]?) → Paired Wk (sl ms τ σ) (sl ms τ σ') := by
    intro ms
    induction ms with
    | nil => intro τ σ σ' _ _ _ _; simp only [sl]; exact .nil
    | cons m ms ih =>
      intro τ σ σ' h1 h2 h3 he
      cases τ with
      | nil => simp at h1
      | cons t τ =>
      cases σ with
      | nil => simp at h2
      | cons v σ =>
      cases σ' with
      | nil => simp at h3
      | cons v' σ' =>
        refine .cons ?_ (ih (by simpa using h1) (by simpa using h2) (by simpa using h3) fun i t hi => by simpa using he (i + 1) t (by simpa using hi))
        cases t with
        | none => exact .inr ⟨m, v', rfl⟩
        | some t =>
          have : v' = v := by simpa using he 0 t rfl
          subst this
          exact .inl rfl
  exact go h.lt h.lv hl he
theorem wipeT_get {τ : Tau} {i : Nat} {t : T} : ∀ {vs : List Nat}, (wipeT τ vs)[i]? = some (some t) → i ∉ vs
  | [], _ => by simp
  | v :: vs, h => by
    unfold wipeT at h
    by_cases e : v = i
    · subst e
      exfalso
      rw [List.getElem?_set] at h
      simp at h
    · rw [List.getElem?_set_ne e] at h
      have := wipeT_get h
      simp only [List.mem_cons, not_or]
      exact ⟨fun z => e z.symm, this⟩
theorem wipe_get {σ : St} {i : Nat} : ∀ {vs : List Nat}, i ∉ vs → (L2.wipe σ vs)[i]? = σ[i]?
  | [], _ => rfl
  | v :: vs, h => by
    simp only [List.mem_cons, not_or] at h
    unfold L2.wipe
    rw [List.getElem?_set_ne (fun z => h.1 z.symm)]
    exact wipe_get h.2
/-- behind a turn: the block's own names are forgotten -/
theorem FrS.unwipe {W : Wd} {τ : Tau} {σ σ2 : St} {hs : List Slot} {vs : List Nat} (hv : ∀ v ∈ vs, v < ms.length) (h : FrS Γ W ms τ σ2 hs) (e : L2.wipe σ2 vs = L2.wipe σ vs) (hl : σ.length = ms.length) : FrS Γ W ms (wipeT τ vs) σ hs := by
  have h1 := h.wipe vs hv
  rw [e] at h1
  refine h1.other hl fun i t hi => ?_
  exact (wipe_get (wipeT_get hi)).symm
def SimGv (Γ : Gm) (ms : List Md) (vs : List Nat) (g : TG) (b : T → M Unit) (r : RC) : Prop := ∀ W τ σ hs x v R τ', FrS Γ W ms τ σ hs → Rep Γ W.F (GOf W r) x v → b x τ = .ok () τ' → (∀ W' σ', W.Le W' → L2.wipe σ' vs = L2.wipe σ vs → FrS Γ W' ms τ' σ' hs → R σ' W'.H) → g v σ W.H R
theorem wipe_set {σ : St} {i : Nat} {x : Option V} : ∀ {vs : List Nat}, i ∈ vs → L2.wipe (σ.set i x) vs = L2.wipe σ vs
  | [], h => by simp at h
  | v :: vs, h => by
    unfold L2.wipe
    by_cases e : i ∈ vs
    · rw [wipe_set e]
    · have : i = v := by
        rcases List.mem_cons.mp h with h | h
        · exact h
        · exact (e h).elim
      subst this
      have go : ∀ (us : List Nat), L2.wipe (σ.set i x) us = (L2.wipe σ us).set i (if i ∈ us then none else x) ∨ True := fun _ => .inr trivial
      have key : ∀ (us : List Nat), i ∉ us → L2.wipe (σ.set i x) us = (L2.wipe σ us).set i x := by
        intro us
        induction us with
        | nil => intro _; rfl
        | cons u us ih =>
          intro hu
          simp only [List.mem_cons, not_or] at hu
          unfold L2.wipe
          rw [ih hu.2, List.set_comm _ _ hu.1]
      rw [key vs e, List.set_set]
theorem sim_gvname {i : Nat} {vs : List Nat} {m : Md} {r : RC} (hi : i ∈ vs) (hm : ms[i]? = some m) (hr : Into r m) (hk : Firm r) : SimGv Γ ms vs (gName i) (put i) r := by
  intro W τ σ hs x v R τ' hF hx hb hR
  have e : τ' = τ.set i (some x) := by injection hb with _ h; exact h.symm
  subst e
  exact hR W _ (.refl _) (wipe_set hi) (FrS.set (r := r) (by rcases hk with rfl | rfl <;> exact ⟨hF, hx⟩) hm hr)
theorem sim_lcX {n : Nat} {p q q' : Bool} {wi : TI} {ei : M (List T)} {g : TG} {bg : T → M Unit} {tt : TT} {et : M Bool} {te : TE} {ee : M T} {vs : List Nat} {r : RC} (hvs : ∀ v ∈ vs, v < ms.length) (hi : SimI Γ E ms p wi ei r) (hg : SimGv Γ ms vs g bg r) (ht : SimT Γ E0 ms q tt et) (he : SimE Γ E0 ms q' te ee (.own n)) (hne : ∀ x τ, ∀ y τ', bg x τ ≠ .exc y τ')
    (hx1 : ∀ τ, ∀ y τ', et τ ≠ .exc y τ') (hx2 : ∀ τ, ∀ y τ', ee τ ≠ .exc y τ') : SimE Γ E ms false (tLc wi g tt te vs) (sLc vs ei bg et ee) (.own (n + 1)) := by
  intro W τ σ hs Q hF hp
  have hp0 : Pst Γ E ms W σ hs (p && false) τ (fun W' w τ' => ∀ v, Has Γ W' ms τ' σ hs (.own (n + 1)) w v → Q v W'.H) (sLc vs ei bg et ee τ) := by rw [Bool.and_false]; exact hp
  refine hi W τ σ hs _ hF (Pst.bind hp0 fun W1 xs τ1 g1 hp1 J hF1 hJ => ?_)
  intro D hD
  -- the new list
  have f0 := hF1.fr.newL hD (ts := []) (vs := []) rfl
  have lv := hF1.lv
  refine ⟨fun i m H' => ∃ W' τ' ts, W'.H = H' ∧ W1.Le W' ∧ i ≤ xs.length ∧ m = xs.length - i ∧ FrS Γ W' ms τ' σ (hs ++ [(.own (n + 1), some (.lst ts), some (.ref D))]) ∧ Pst Γ E ms W' σ hs false τ' (fun W' w τ' => ∀ v, Has Γ W' ms τ' σ hs (.own (n + 1)) w v → Q v W'.H) ((lcM vs bg et ee (xs.drop i) ts >>= fun ws => M.pure (.lst ws)) τ'),
    ⟨xs.length, ⟨W1.F, W1.B, upd W1.H D (.lst [])⟩, τ1, [], rfl, grow_le, Nat.zero_le _, rfl, ⟨?_, hF1.lt, hF1.lv⟩, ?_⟩, ?_⟩
  · rw [← List.append_assoc]
    exact hF1.fr.new (H' := upd W1.H D (.lst [])) (upd_sub hD) (fp := [D]) ⟨D, [], [], rfl, upd_same, rfl, rfl, rfl⟩ (by simp) fun a ha => by rw [List.mem_singleton.mp ha]; exact hD
  · have hp1' : Pst Γ E ms W1 σ hs false τ1 (fun W' w τ' => ∀ v, Has Γ W' ms τ' σ hs (.own (n + 1)) w v → Q v W'.H) ((lcM vs bg et ee xs [] >>= fun ws => M.pure (.lst ws)) τ1) := hp1
    cases hr : (lcM vs bg et ee xs [] >>= fun ws => (M.pure (T.lst ws) : M T)) τ1 with
    | stuck => rw [hr] at hp1'; exact hp1'.elim
    | exc x τ' => rw [hr] at hp1'; simp only [List.drop_zero]; rw [hr]; exact fun W' cls d g => hp1' W' cls d ⟨grow_le.trans g.1, fun z => nomatch z⟩
    | ok x τ' => rw [hr] at hp1'; simp only [List.drop_zero]; rw [hr]; exact fun W' g => hp1' W' ⟨grow_le.trans g.1, fun z => nomatch z⟩
  · rintro i m H2 ⟨W2, τ2, ts, rfl, l2, hi2, rfl, hF2, hp2⟩
    obtain ⟨hstop, hgo⟩ := hJ W2 _ l2 hF2.fr
    by_cases hlt : i < xs.length
    · right
      obtain ⟨g1', g2⟩ := hgo i xs[i] (List.getElem?_eq_getElem hlt)
      refine ⟨g1', fun H' => ∃ W' τ' ts, W'.H = H' ∧ W1.Le W' ∧ FrS Γ W' ms τ' σ (hs ++ [(.own (n + 1), some (.lst ts), some (.ref D))]) ∧ Pst Γ E ms W' σ hs false τ' (fun W' w τ' => ∀ v, Has Γ W' ms τ' σ hs (.own (n + 1)) w v → Q v W'.H) ((lcM vs bg et ee (xs.drop (i + 1)) ts >>= fun ws => M.pure (.lst ws)) τ'), ?_, ?_⟩
      · rintro H' ⟨W', τ', ts', rfl, l', hF', hp'⟩
        exact ⟨xs.length - (i + 1), by omega, W', τ', ts', rfl, l', hlt, rfl, hF', hp'⟩
      · intro v H' hy
        obtain ⟨W3, rfl, l3, hF3, hr3⟩ := g2 v H' hy
        have hF3' : FrS Γ W3 ms τ2 σ (hs ++ [(.own (n + 1), some (.lst ts), some (.ref D))]) := ⟨hF3, hF2.lt, hF2.lv⟩
        have hFw := hF3'.wipe vs hvs
        rw [List.drop_eq_getElem_cons hlt] at hp2
        have hp3 : Pst Γ E ms W2 σ hs false τ2 (fun W' w τ' => ∀ v, Has Γ W' ms τ' σ hs (.own (n + 1)) w v → Q v W'.H) (((bg xs[i] (wipeT τ2 vs)).next fun _ => et >>= fun b => if b = true then ee >>= fun w => (if ts.length < szL then M.pure () else M.stuck) >>= fun _ => wipeM vs >>= fun _ => lcM vs bg et ee (xs.drop (i + 1)) (ts ++ [w]) else wipeM vs >>= fun _ => lcM vs bg et ee (xs.drop (i + 1)) ts).next fun ws => M.pure (.lst ws)) := hp2
        cases hbg : bg xs[i] (wipeT τ2 vs) with
        | stuck => rw [hbg] at hp3; exact hp3.elim
        | exc y τ3 => exact (hne _ _ _ _ hbg).elim
        | ok u τ3 =>
          rw [hbg] at hp3
          have hp4 : Pst Γ E ms W2 σ hs false τ2 (fun W' w τ' => ∀ v, Has Γ W' ms τ' σ hs (.own (n + 1)) w v → Q v W'.H) (((et τ3).next fun b => if b = true then ee >>= fun w => (if ts.length < szL then M.pure () else M.stuck) >>= fun _ => wipeM vs >>= fun _ => lcM vs bg et ee (xs.drop (i + 1)) (ts ++ [w]) else wipeM vs >>= fun _ => lcM vs bg et ee (xs.drop (i + 1)) ts).next fun ws => M.pure (.lst ws)) := hp3
          have later : ∀ {W' : Wd} {τ' : Tau} {r : RE T}, W2.Le W' → Pst Γ E ms W2 σ hs false τ2 (fun W' w τ' => ∀ v, Has Γ W' ms τ' σ hs (.own (n + 1)) w v → Q v W'.H) r → Pst Γ E ms W' σ hs false τ' (fun W' w τ' => ∀ v, Has Γ W' ms τ' σ hs (.own (n + 1)) w v → Q v W'.H) r := by
            intro W' τ' r l h
            cases r with
            | stuck => exact h
            | exc x τ'' => exact fun W'' cls d g => h W'' cls d ⟨l.trans g.1, fun z => nomatch z⟩
            | ok x τ'' => exact fun W'' g => h W'' ⟨l.trans g.1, fun z => nomatch z⟩
          refine hg W3 (wipeT τ2 vs) (L2.wipe σ vs) _ xs[i] v _ τ3 hFw hr3 hbg fun W4 σ4 l4 hw4 hF4 => ?_
          have hw4' : L2.wipe σ4 vs = L2.wipe σ vs := by
            rw [hw4]
            have idem : ∀ us : List Nat, (∀ u ∈ us, u ∈ vs) → L2.wipe (L2.wipe σ vs) us = L2.wipe σ vs := by
              intro us
              induction us with
              | nil => intro _; rfl
              | cons u us ih =>
                intro h
                show (L2.wipe (L2.wipe σ vs) us).set u none = L2.wipe σ vs
                rw [ih fun w hw => h w (List.mem_cons_of_mem _ hw)]
                have : ∀ {ws : List Nat}, u ∈ ws → (L2.wipe σ ws).set u none = L2.wipe σ ws := by
                  intro ws
                  induction ws with
                  | nil => intro h; simp at h
                  | cons w ws ih =>
                    intro h
                    unfold L2.wipe
                    by_cases e : w = u
                    · subst e; rw [List.set_set]
                    · rw [List.set_comm _ _ (fun z => e z), ih (by rcases List.mem_cons.mp h with h | h; exact (e h.symm).elim; exact h)]
                exact this (h u (by simp))
            exact idem vs fun u hu => hu
          refine ⟨hw4', ?_⟩
          refine ht W4 τ3 σ4 _ _ hF4 ?_
          cases het : et τ3 with
          | stuck => rw [het] at hp4; exact hp4.elim
          | exc y τ5 => exact (hx1 _ _ _ het).elim
          | ok b τ5 =>
            rw [het] at hp4
            intro W5 g5 hF5
            cases b with
            | false =>
              refine iteF ⟨W5, wipeT τ5 vs, ts, rfl, ((l2.trans l3).trans l4).trans g5.1, hF5.unwipe hvs hw4' lv, ?_⟩
              exact later ((l3.trans l4).trans g5.1) hp4
            | true =>
              have hp5 : Pst Γ E ms W2 σ hs false τ2 (fun W' w τ' => ∀ v, Has Γ W' ms τ' σ hs (.own (n + 1)) w v → Q v W'.H) (((ee τ5).next fun w => (if ts.length < szL then M.pure () else M.stuck) >>= fun _ => wipeM vs >>= fun _ => lcM vs bg et ee (xs.drop (i + 1)) (ts ++ [w])).next fun ws => M.pure (.lst ws)) := hp4
              refine iteT (he W5 τ5 σ4 _ _ hF5 ?_)
              cases hee : ee τ5 with
              | stuck => rw [hee] at hp5; exact hp5.elim
              | exc y τ6 => exact (hx2 _ _ _ hee).elim
              | ok w τ6 =>
                rw [hee] at hp5
                intro W6 g6 vw hvw
                have hw6 : FrS Γ W6 ms τ6 σ4 ((hs ++ [(.own (n + 1), some (.lst ts), some (.ref D))]) ++ [(.own n, some w, some vw)]) := hvw
                have hp6 : Pst Γ E ms W2 σ hs false τ2 (fun W' w τ' => ∀ v, Has Γ W' ms τ' σ hs (.own (n + 1)) w v → Q v W'.H) ((((if ts.length < szL then M.pure () else M.stuck) >>= fun _ => wipeM vs >>= fun _ => lcM vs bg et ee (xs.drop (i + 1)) (ts ++ [w])) τ6).next fun ws => M.pure (.lst ws)) := hp5
                by_cases hz : ts.length < szL
                · rw [if_pos hz] at hp6
                  -- the item joins the list
                  have fr6 := hw6.fr
                  have pm : (sl ms τ6 σ4 ++ (hs ++ [(Md.own (n + 1), some (T.lst ts), some (V.ref D))] ++ [(Md.own n, some w, some vw)])).Perm ((.own (n + 1), some (.lst ts), some (.ref D)) :: (.own n, some w, some vw) :: (sl ms τ6 σ4 ++ hs)) := by
                    rw [← List.append_assoc, ← List.append_assoc]
                    refine (List.Perm.append_right _ List.perm_append_comm).trans ?_
                    simp only [List.cons_append, List.nil_append]
                    exact List.Perm.cons _ List.perm_append_comm
                  obtain ⟨fs, ft, r1, r2, nd, hb, h4⟩ := (fr6.perm pm).head2
                  obtain ⟨a', us, fp1, e1, k1, rfl, k2⟩ := (show RepO Γ W6.F W6.H (n + 1) (.lst ts) (.ref D) fs from r1)
                  cases e1
                  have r2' : RepO Γ W6.F W6.H n w vw ft := r2
                  have hlen : ts.length = us.length := (repOL_get k2).1
                  refine ⟨us, k1, by rw [← hlen, ← szL_eq]; exact hz, ?_⟩
                  have keepH : ∀ b o, b ≠ D → W6.H b = some o → upd W6.H D (.lst (us ++ [vw])) b = some o := fun b o hb e => by rw [upd_ne hb]; exact e
                  have hnot : D ∉ fp1 ++ ft := by
                    rw [List.cons_append, List.nodup_cons] at nd
                    exact nd.1
                  have ht' : ∀ b o, W6.H b = some o → ¬ Mut (some o) → upd W6.H D (.lst (us ++ [vw])) b = some o := fun b o e nm => keepH b o (fun z => by subst z; rw [k1] at e; cases e; exact nm True.intro) e
                  have f7 := h4 (upd W6.H D (.lst (us ++ [vw]))) (.own (n + 1), some (.lst (ts ++ [w])), some (.ref D)) (D :: (fp1 ++ ft)) (fun b o hb e => keepH b o (fun z => hb (by rw [z]; simp)) e) ⟨D, us ++ [vw], fp1 ++ ft, rfl, upd_same, rfl, repOL_snoc (RepO.keep (Same.refl _) ht' w (fun b hb o e => keepH b o (fun z => hnot (by rw [← z]; simp [hb])) e) r2') (RepOL.keep (Same.refl _) ht' ts (fun b hb o e => keepH b o (fun z => hnot (by rw [← z]; simp [hb])) e) k2)⟩ (by simpa using nd) (fun b hb => .inl (by simpa using hb))
                  have f8 : FrS Γ { W6 with H := upd W6.H D (.lst (us ++ [vw])) } ms τ6 σ4 (hs ++ [(.own (n + 1), some (.lst (ts ++ [w])), some (.ref D))]) := ⟨by
                    rw [← List.append_assoc]
                    exact f7.perm (List.perm_append_comm (l₁ := [_])), hw6.lt, hw6.lv⟩
                  refine ⟨{ W6 with H := upd W6.H D (.lst (us ++ [vw])) }, wipeT τ6 vs, ts ++ [w], rfl, (((l2.trans l3).trans l4).trans (g5.1.trans g6.1)).trans grow_le, f8.unwipe hvs hw4' lv, ?_⟩
                  exact later (((l3.trans l4).trans (g5.1.trans g6.1)).trans grow_le) hp6
                · rw [if_neg hz] at hp6; exact hp6.elim
    · left
      have e : i = xs.length := by omega
      subst e
      rw [List.drop_length] at hp2
      have hp3 : Pst Γ E ms W2 σ hs false τ2 (fun W' w τ' => ∀ v, Has Γ W' ms τ' σ hs (.own (n + 1)) w v → Q v W'.H) (.ok (.lst ts) τ2) := hp2
      exact ⟨hstop, hp3 W2 Go.refl (.ref D) hF2⟩
theorem SimT.noE {q : Bool} {tt : TT} {et : M Bool} (h : SimT Γ E0 ms q tt et) : SimT Γ E0 ms q tt (TL.noE et) := by
  intro W τ σ hs Q hF hp
  refine h W τ σ hs Q hF ?_
  unfold TL.noE at hp
  cases e : et τ with
  | stuck => rw [e] at hp; exact hp
  | exc x τ' => rw [e] at hp; exact hp.elim
  | ok b τ' => rw [e] at hp; exact hp
theorem SimE.noE {q : Bool} {te : TE} {ee : M T} {r : RC} (h : SimE Γ E0 ms q te ee r) : SimE Γ E0 ms q te (TL.noE ee) r := by
  intro W τ σ hs Q hF hp
  refine h W τ σ hs Q hF ?_
  unfold TL.noE at hp
  cases e : ee τ with
  | stuck => rw [e] at hp; exact hp
  | exc x τ' => rw [e] at hp; exact hp.elim
  | ok b τ' => rw [e] at hp; exact hp
theorem sim_yes : SimT Γ E ms true tYes (M.pure true) := fun W τ σ hs Q hF hp => hp W Go.refl hF
theorem sim_lc {n : Nat} {p q q' : Bool} {wi : TI} {ei : M (List T)} {g : TG} {bg : T → M Unit} {tt : TT} {et : M Bool} {te : TE} {ee : M T} {vs : List Nat} {r : RC} (hvs : ∀ v ∈ vs, v < ms.length) (hi : SimI Γ E ms p wi ei r) (hg : SimGv Γ ms vs g bg r) (hne : ∀ x τ, ∀ y τ', bg x τ ≠ .exc y τ') (ht : SimT Γ E0 ms q tt et) (he : SimE Γ E0 ms q' te ee (.own n)) :
    SimE Γ E ms false (tLc wi g tt te vs) (sLc vs ei bg (TL.noE et) (TL.noE ee)) (.own (n + 1)) := sim_lcX hvs hi hg ht.noE he.noE hne (noE_ne et) (noE_ne ee)
end
end TL
end
section
set_option Elab.async false
set_option Elab.async false
set_option linter.all false
set_option autoImplicit false
set_option maxRecDepth 100000
set_option maxHeartbeats 4000000
namespace TL
open PySem PySem.Spec L2
section
variable {Γ : Gm} {E : XW} {ms : List Md}
def NewS (Γ : Gm) (r : List V → Hp → VK → Prop) (f : List T → Option (List T)) : Prop := ∀ (F G H : Hp) (ts ws : List T) (vs : List V) (Q : VK), Same F H → Same G H → RepL Γ F G ts vs → f ts = some ws → (∀ ys, RepL Γ F G ws ys → ∀ p, H p = none → Q (.ref p) (upd H p (.lst ys))) → r vs H Q
theorem sim_new_fz {r : List V → Hp → VK → Prop} {f : List T → Option (List T)} {p : Bool} {ta : TA} {e : M (List T)} {cs : List RC} (hr : NewS Γ r f) (ha : SimA Γ E ms p ta e cs) (hc : All .fz cs) : SimE Γ E ms p (tCB r ta) (e >>= fun ts => M.of ((f ts).map .lst)) (.own 1) := by
  intro W τ σ hs Q hF hp
  refine ha W τ σ hs _ hF (Pst.bind1 hp fun W1 ts τ1 g1 hp1 vs hF1 hv => ?_)
  have hl := hasA_fz hc hv
  cases hf : f ts with
  | none => rw [hf] at hp1; exact hp1.elim
  | some ws =>
    rw [hf] at hp1
    have fh := hF1.fr.fb.trans hF1.fr.bh
    refine hr W1.F W1.F W1.H ts ws vs Q fh fh hl hf fun ys hy q hq => ?_
    exact hp1 ⟨W1.F, W1.B, upd W1.H q (.lst ys)⟩ ⟨grow_le, fun _ => ⟨upd_sub hq, rfl⟩⟩ (.ref q) ⟨by have := hF1.fr.newL hq hy; rwa [List.append_assoc] at this, hF1.lt, hF1.lv⟩
theorem sim_new_imm {r : List V → Hp → VK → Prop} {f : List T → Option (List T)} {p : Bool} {ta : TA} {e : M (List T)} {cs : List RC} (hr : NewS Γ r f) (ha : SimA Γ E ms p ta e cs) (hn : NoSlot cs) : SimE Γ E ms p (tCB r ta) (e >>= fun ts => newC (f ts)) (.own 1) := by
  intro W τ σ hs Q hF hp
  refine ha W τ σ hs _ hF (Pst.bind1 hp fun W1 ts τ1 g1 hp1 vs hF1 hv => ?_)
  have hl := HasA.now hF1.fr hn.all hv
  cases hf : f ts with
  | none => rw [hf] at hp1; exact hp1.elim
  | some ws =>
    rw [hf] at hp1
    have hp2 : Pst Γ E ms W1 σ hs true τ1 (fun W' w τ' => ∀ v, Has Γ W' ms τ' σ hs (.own 1) w v → Q v W'.H) ((immsC ws >>= fun ws => M.pure (.lst ws)) τ1) := hp1
    unfold immsC at hp2
    by_cases hi : imms ws = true
    · rw [if_pos hi] at hp2
      have fh := hF1.fr.fb.trans hF1.fr.bh
      obtain ⟨l, hF2⟩ := hF1.fix
      refine hr W1.F W1.H W1.H ts ws vs Q fh (Same.refl _) hl hf fun ys hy q hq => ?_
      have hy2 : RepL Γ W1.fix.F W1.fix.F ws ys := imms_rep l.f (fix_t hF1.fr) ws hi hy
      have hq2 : W1.fix.H q = none := hq
      exact hp2 ⟨W1.fix.F, W1.fix.B, upd W1.fix.H q (.lst ys)⟩ ⟨l.trans grow_le, fun _ => ⟨upd_sub hq, rfl⟩⟩ (.ref q) ⟨by have := hF2.fr.newL hq2 hy2; rwa [List.append_assoc] at this, hF1.lt, hF1.lv⟩
    · rw [if_neg hi] at hp2; exact hp2.elim
def rListU (Γ : Gm) : List V → Hp → VK → Prop := fun vs H Q => rListOf Γ.K vs H Q ∨ ∃ d es ep, vs = [V.ref d] ∧ H d = some (DX Γ.w d es ep) ∧ ∀ p, H p = none → Q (.ref p) (upd H p (.lst (es.map (·.2.1))))
theorem listU {X : Cx} (hc : X.calm = true) (hK : Γ.K = X.K) : CallR X (.type "list") (rListU Γ) := by
  intro pins s σ H xs us Q I r h
  rcases h with h | h
  · exact call_list_of pins s σ H xs us Q I r (by rw [← hK]; exact h)
  · exact call_list_dx hc pins s σ H xs us Q I r h
theorem repD_ks {F G : Hp} : ∀ {kvs : List (T × T)} {es : List Ent}, RepD Γ F G kvs es → RepL Γ F G (kvs.map (·.1)) (es.map (·.2.1))
  | [], es, h => by cases h; rfl
  | (k, x) :: kvs, es, h => by
    obtain ⟨nk, kv, v, r, rfl, _, h2, _, h4⟩ := h
    exact ⟨kv, _, rfl, h2, repD_ks h4⟩
theorem newS_list : NewS Γ (rListU Γ) fList := by
  intro F G H ts ws vs Q hF hG hl hf hq
  match ts, hf with
  | [.lst xs], hf =>
    cases hf
    obtain ⟨v, r, rfl, ⟨a, us, rfl, h1, h2⟩, h3⟩ := hl
    cases h3
    exact .inl ⟨a, us, rfl, .inl (sqL_sub hG h1), fun l hl => hq us h2 l hl⟩
  | [.tup xs], hf =>
    cases hf
    obtain ⟨v, r, rfl, ⟨a, us, rfl, h1, h2⟩, h3⟩ := hl
    cases h3
    exact .inl ⟨a, us, rfl, .inr (sqT_sub hG h1), fun l hl => hq us h2 l hl⟩
  | [.dct kvs], hf =>
    cases hf
    obtain ⟨v, r, rfl, ⟨a, es, ep, rfl, h1, h2, h3⟩, h4⟩ := hl
    cases h4
    exact .inr ⟨a, es, ep, rfl, hG _ _ h1, fun l hl => hq _ (repD_ks h3) l hl⟩
theorem cut_rep {F G : Hp} {xs : List T} {vs : List V} (h : RepL Γ F G xs vs) (lo hi : Option Int) : RepL Γ F G (cut xs lo hi) (cutV vs lo hi) := by
  have hl := (repL_get h).1
  have drop : ∀ {xs : List T} {vs : List V} (n : Nat), RepL Γ F G xs vs → RepL Γ F G (xs.drop n) (vs.drop n) := by
    intro xs
    induction xs with
    | nil => intro vs n h; cases h; simp; rfl
    | cons x xs ih =>
      intro vs n h
      obtain ⟨v, r, rfl, h1, h2⟩ := h
      cases n with
      | zero => exact ⟨v, r, rfl, h1, h2⟩
      | succ n => simpa using ih n h2
  have take : ∀ {xs : List T} {vs : List V} (n : Nat), RepL Γ F G xs vs → RepL Γ F G (xs.take n) (vs.take n) := by
    intro xs
    induction xs with
    | nil => intro vs n h; cases h; simp; rfl
    | cons x xs ih =>
      intro vs n h
      obtain ⟨v, r, rfl, h1, h2⟩ := h
      cases n with
      | zero => rfl
      | succ n => exact ⟨v, r.take n, by simp, h1, ih n h2⟩
  have e : ∀ (n d : Nat) (o : Option Int), HT.sIx n d o = ixS n d o := fun n d o => by cases o <;> rfl
  unfold cut cutV
  rw [← hl, e, e]
  exact take _ (drop _ h)
/-- a part of a slice -/
def SimO (Γ : Gm) (E : XW) (ms : List Md) (p : Bool) (t : TO) (e : M (Option Int)) : Prop := ∀ W τ σ hs R, FrS Γ W ms τ σ hs → Pst Γ E ms W σ hs p τ (fun W' o τ' => FrS Γ W' ms τ' σ hs → R o W'.H) (e τ) → t σ W.H R
theorem sim_nopart : SimO Γ E ms true tNoPart (M.pure none) := fun W τ σ hs R hF hp => hp W Go.refl hF
theorem sim_part {p : Bool} {t : TE} {e : M T} {r : RC} (h : SimE Γ E ms p t e r) : SimO Γ E ms p (tPart t) (e >>= fun x => asI x >>= fun i => M.pure (some i)) := by
  intro W τ σ hs R hF hp
  refine h W τ σ hs _ hF (Pst.bind1 hp fun W1 x τ1 g1 hp1 v hv => ?_)
  cases x with
  | int i =>
    have e : v = .int i := hv.now
    exact ⟨i, e, hp1 W1 Go.refl hv.fr⟩
  | _ => exact (show False from hp1).elim
theorem sim_sl_imm {p q q' : Bool} {te : TE} {tl th : TO} {e : M T} {el eh : M (Option Int)} {r : RC} (h : SimE Γ E ms p te e r) (h1 : SimO Γ E ms q tl el) (h2 : SimO Γ E ms q' th eh) (hst : Stay r (q && q')) : SimE Γ E ms (p && (q && q')) (tSl (rSlQ Γ.K) te tl th) (e >>= fun x => el >>= fun lo => eh >>= fun hi => newC (oCutL x lo hi)) (.own 1) := by
  intro W τ σ hs Q hF hp
  refine h W τ σ hs _ hF (Pst.bind hp fun W1 x τ1 g1 hp1 v hv => ?_)
  refine h1 W1 τ1 σ hs _ hv.fr (Pst.bind hp1 fun W2 lo τ2 g2 hp2 hF2 => ?_)
  refine h2 W2 τ2 σ hs _ hF2 (Pst.bind1 hp2 fun W3 hi τ3 g3 hp3 hF3 => ?_)
  have hv3 := (hv.later (g2.trans g3) hF3 hst).now
  cases x with
  | lst xs =>
    obtain ⟨a, us, rfl, k1, k2⟩ := hv3
    have hp4 : Pst Γ E ms W3 σ hs true τ3 (fun W' w τ' => ∀ v, Has Γ W' ms τ' σ hs (.own 1) w v → Q v W'.H) ((immsC (cut xs lo hi) >>= fun ws => M.pure (.lst ws)) τ3) := hp3
    unfold immsC at hp4
    by_cases hi0 : imms (cut xs lo hi) = true
    · rw [if_pos hi0] at hp4
      obtain ⟨l, hF4⟩ := hF3.fix
      refine .inl ⟨a, us, rfl, k1, fun q hq => ?_⟩
      have hy2 : RepL Γ W3.fix.F W3.fix.F (cut xs lo hi) (cutV us lo hi) := imms_rep l.f (fix_t hF3.fr) _ hi0 (cut_rep k2 lo hi)
      have hq2 : W3.fix.H q = none := hq
      exact hp4 ⟨W3.fix.F, W3.fix.B, upd W3.fix.H q (.lst (cutV us lo hi))⟩ ⟨l.trans grow_le, fun _ => ⟨upd_sub hq, rfl⟩⟩ (.ref q) ⟨by have := hF4.fr.newL hq2 hy2; rwa [List.append_assoc] at this, hF3.lt, hF3.lv⟩
    · rw [if_neg hi0] at hp4; exact hp4.elim
  | _ => exact hp3.elim
end
end TL
end
section
set_option Elab.async false
set_option Elab.async false
set_option linter.all false
set_option autoImplicit false
set_option maxRecDepth 100000
set_option maxHeartbeats 4000000
namespace TL
open PySem PySem.Spec L2
section
variable {Γ : Gm} {E : XW} {ms : List Md} {rr : RC}
theorem repF_look {F B : Hp} {f : Str} {w : T} : ∀ {fs : List (Str × T)} {fv : List (Str × V)}, RepF Γ F B fs fv → fs.lookup f = some w → ∃ v, fv.lookup f = some v ∧ Rep Γ F B w v
  | [], _, h, e => by simp at e
  | (g, x) :: fs, _, h, e => by
    obtain ⟨v, r, rfl, h1, h2⟩ := h
    rw [List.lookup_cons] at e ⊢
    cases hb : f == g with
    | true => rw [hb] at e; cases e; exact ⟨v, rfl, h1⟩
    | false => rw [hb] at e; exact repF_look h2 e
end
end TL
end
section
set_option Elab.async false
set_option Elab.async false
set_option linter.all false
set_option autoImplicit false
set_option maxRecDepth 100000
set_option maxHeartbeats 4000000
namespace TL
open PySem PySem.Spec L2
section
variable {Γ : Gm} {E : XW} {ms : List Md} {rr : RC}
theorem Args.len : ∀ {cs : List RC} {pms : List Md}, Args cs pms → cs.length = pms.length
  | [], [], _ => rfl
  | _ :: _, _ :: _, h => by simp [Args.len h.2]
  | [], _ :: _, h => h.elim
  | _ :: _, [], h => h.elim
end
end TL
end
section
set_option Elab.async false
set_option Elab.async false
set_option linter.all false
set_option autoImplicit false
set_option maxRecDepth 100000
set_option maxHeartbeats 4000000
namespace TL
open PySem PySem.Spec L2
def TyU (Γ : Gm) (H : Hp) (x : V) (t : Value) : Prop := TyW Γ.K H x t ∨ ∃ a es ep, x = .ref a ∧ H a = some (DX Γ.w a es ep) ∧ t = .type "dict"
def rIsi1 (Γ : Gm) : List V → Hp → VK → Prop := fun xs H Q => ∃ (x c : V) (t u : Value) (b : Bool), xs = [x, c] ∧ ClsV c u ∧ TyU Γ H x t ∧ PySem.W.kitOne Γ.K t u = some b ∧ Q (.bl b) H
def rIsi2 (Γ : Gm) : List V → Hp → VK → Prop := fun xs H Q => ∃ (x : V) (tp : Addr) (cs : List V) (t : Value) (us : List Value) (b : Bool), xs = [x, .ref tp] ∧ H tp = some (.tup cs) ∧ Paired ClsV cs us ∧ TyU Γ H x t ∧ PySem.W.kitAny Γ.K t us = some b ∧ Q (.bl b) H
section
variable {X : Cx} {Γ : Gm}
theorem kit_ofU (hK : Γ.K = X.K) {pins : List (Addr × Obj)} {σ : St} {H : Hp} {s : Shared} {x : V} {u t : Value} (I : Inv X pins σ H s) (rx : L2.RelV x u) (ty : TyU Γ H x t) : ∃ P : Heap → Prop, PySem.W.KitX X.K u t P ∧ P s.heap ∧ u ≠ .builtin "__main__.__loader__#opaque" := by
  rcases ty with h | ⟨a, es, ep, rfl, h, rfl⟩
  · rw [hK] at h; exact kit_ofW I rx h
  · cases (show u = Value.ref a from rx)
    obtain ⟨_, _, o, xs, ho, hx, _⟩ := dx_of I h
    exact ⟨_, PySem.W.kitx_dict, ⟨o, ho, hx.1⟩, fun z => nomatch z⟩
theorem isiU1 (hK : Γ.K = X.K) : CallR X (.builtin "isinstance") (rIsi1 Γ) := by
  intro pins s σ H xs us Q I r h
  obtain ⟨x, c, t, u, b, rfl, k, ty, e, q⟩ := h
  obtain ⟨u1, u2, rfl, r1, r2⟩ := vals2 r
  have e2 := k.eq r2
  subst e2
  obtain ⟨P, Z, p, hx⟩ := kit_ofU hK I r1 ty
  rw [hK] at e
  exact PySem.W.kia_one Z I.kIn p e hx fun tk => ⟨.bl b, H, I.tok tk, rfl, q⟩
theorem isiU2 (hK : Γ.K = X.K) : CallR X (.builtin "isinstance") (rIsi2 Γ) := by
  intro pins s σ H xs us Q I r h
  obtain ⟨x, tp, cs, t, ws, b, rfl, hT, k, ty, e, q⟩ := h
  obtain ⟨u1, u2, rfl, r1, r2⟩ := vals2 r
  cases (show u2 = Value.ref tp from r2)
  obtain ⟨P, Z, p, hx⟩ := kit_ofU hK I r1 ty
  obtain ⟨_, its, rv, o, h1, h2, n, h3⟩ := (show ObjOk X.prog X.w H s.heap tp (.tup cs) from I.hok tp _ hT)
  have e3 := ClsV.all k rv
  subst e3
  obtain ⟨oc, od, dt, sl⟩ := o
  simp only at h2 h3
  subst h2 h3
  rw [hK] at e
  exact PySem.W.kia_tup Z I.kIn p h1 e hx fun tk => ⟨.bl b, H, I.tok tk, rfl, q⟩
end
section
variable {Γ : Gm} {E : XW} {ms : List Md} {rr : RC}
theorem tyU_of {F H : Hp} {t : T} {v : V} {nm : String} (hF : Same F H) (h : Rep Γ F H t v) (hn : tyName t = some nm) : TyU Γ H v (.type nm) := by
  cases t with
  | non => cases hn; cases (show v = .non from h); exact .inl (.x ty_non)
  | bl b => cases hn; cases (show v = .bl b from h); exact .inl (.x ty_bl)
  | int i => cases hn; cases (show v = .int i from h); exact .inl (.x ty_int)
  | str z => cases hn; cases (show v = .str z from h); exact .inl (.x ty_str)
  | tup xs => cases hn; obtain ⟨a, vs, rfl, h1, _⟩ := h; exact .inl (.x (ty_tup h1))
  | lst xs => cases hn; obtain ⟨a, vs, rfl, h1, _⟩ := h; exact .inl (.x (ty_lst h1))
  | dct kvs => cases hn; obtain ⟨a, es, ep, rfl, h1, _⟩ := h; exact .inr ⟨a, es, ep, rfl, h1, rfl⟩
  | set xs => cases hn
  | ins c fs => cases hn
theorem tyName_mem {t : T} {nm : String} (h : tyName t = some nm) : nm ∈ tyNames := by
  cases t <;> cases h <;> decide
def KitOk (t : String) : Prop := ∀ nm ∈ tyNames, kitB nm t = some (isA1 nm t)
theorem sim_isa1 {p : Bool} {ta : TE} {ea : M T} {r : RC} {t : String} (hk : KitOk t) (ha : SimE Γ E ms p ta ea r) : SimE Γ E ms p (tCB (rIsi1 Γ) (tCons ta (tCons (tC (.ty t)) tNil))) (ea >>= fun x => M.of (oIsA x [t])) .fz := by
  intro W τ σ hs Q hF hp
  refine ha W τ σ hs _ hF (Pst.bind1 hp fun W1 x τ1 g1 hp1 vx h1 => ?_)
  unfold oIsA at hp1
  cases hn : tyName x with
  | none => rw [hn] at hp1; exact hp1.elim
  | some nm =>
    rw [hn] at hp1
    have hb := hk nm (tyName_mem hn)
    have e : ([t].any (isA1 nm)) = isA1 nm t := by simp
    have hp2 : Pst Γ E ms W1 σ hs true τ1 (fun W' w τ' => ∀ v, Has Γ W' ms τ' σ hs .fz w v → Q v W'.H) (.ok (.bl ([t].any (isA1 nm))) τ1) := hp1
    rw [e] at hp2
    have fr := h1.fr.fr
    exact ⟨vx, .ty t, .type nm, .type t, isA1 nm t, rfl, .ty t, tyU_of (fr.fb.trans fr.bh) h1.now hn, kit_ty hb, hp2 W1 Go.refl _ ⟨h1.fr, rfl⟩⟩
theorem sim_isa2 {p : Bool} {ta : TE} {ea : M T} {r : RC} {t u : String} (hk : KitOk t) (hk' : KitOk u) (ha : SimE Γ E ms p ta ea r) : SimE Γ E ms p (tCB (rIsi2 Γ) (tCons ta (tCons (tTup (tCons (tC (.ty t)) (tCons (tC (.ty u)) tNil))) tNil))) (ea >>= fun x => M.of (oIsA x [t, u])) .fz := by
  intro W τ σ hs Q hF hp
  refine ha W τ σ hs _ hF (Pst.bind1 hp fun W1 x τ1 g1 hp1 vx h1 => ?_)
  unfold oIsA at hp1
  cases hn : tyName x with
  | none => rw [hn] at hp1; exact hp1.elim
  | some nm =>
    rw [hn] at hp1
    have hb := hk nm (tyName_mem hn)
    have hb' := hk' nm (tyName_mem hn)
    have e : ([t, u].any (isA1 nm)) = (isA1 nm t || isA1 nm u) := by simp
    have hp2 : Pst Γ E ms W1 σ hs true τ1 (fun W' w τ' => ∀ v, Has Γ W' ms τ' σ hs .fz w v → Q v W'.H) (.ok (.bl ([t, u].any (isA1 nm))) τ1) := hp1
    rw [e] at hp2
    have fr := h1.fr.fr
    refine ⟨by show 2 ≤ sizeLine; decide, fun q hq => ?_⟩
    obtain ⟨l, fB⟩ := fr.newB (.tup [.ty t, .ty u]) hq
    have sub : Same W1.H (upd W1.H q (.tup [.ty t, .ty u])) := upd_sub hq
    have hT := tyU_of (Γ := Γ) ((fr.fb.trans fr.bh).trans sub) (Rep.mono (Same.refl _) x sub h1.now) hn
    refine ⟨vx, q, _, .type nm, [.type t, .type u], isA1 nm t || isA1 nm u, rfl, upd_same, .cons (.ty _) (.cons (.ty _) .nil), hT, ?_, hp2 _ ⟨l, fun _ => ⟨sub, rfl⟩⟩ _ ⟨⟨fB, h1.fr.lt, h1.fr.lv⟩, rfl⟩⟩
    refine kitAny_cons (kit_ty hb) (fun e => kitAny_cons (kit_ty hb') (fun e2 => ?_) (fun e2 => ?_)) (fun e => ?_)
    · rw [e, e2]; exact kitAny_nil
    · rw [e, e2]; rfl
    · rw [e]; rfl
theorem sim_dnew : SimE Γ E ms true (tDX Γ.w) (M.pure (.dct [])) (.own 1) := by
  intro W τ σ hs Q hF hp p ep hq
  have fn := hF.fr.new (H' := upd W.H p (DX Γ.w p [] ep)) (s := (.own 1, some (.dct []), some (.ref p))) (fp := [p]) (upd_sub hq) ⟨p, [], ep, rfl, upd_same, by simp, rfl, rfl⟩ (by simp) (fun a ha => by rw [List.mem_singleton.mp ha]; exact hq)
  exact hp ⟨W.F, W.B, upd W.H p (DX Γ.w p [] ep)⟩ ⟨grow_le, fun _ => ⟨upd_sub hq, rfl⟩⟩ (.ref p) ⟨by rw [← List.append_assoc]; exact fn, hF.lt, hF.lv⟩
end
end TL
end
section
set_option Elab.async false
set_option Elab.async false
set_option linter.all false
set_option autoImplicit false
set_option maxRecDepth 100000
set_option maxHeartbeats 4000000
namespace TL
open PySem PySem.Spec L2
section
variable {Γ : Gm} {E : XW} {ms : List Md} {rr : RC}
theorem pyIx_lt {n j : Nat} {k : Int} (h : pyIx n k = some j) : j < n := by
  unfold pyIx at h
  split at h
  · split at h
    · cases h; omega
    · cases h
  · split at h
    · cases h; omega
    · cases h
/-- y[k] = w -/
theorem setL_in {F H : Hp} {n : Nat} {ys zs : List T} {u vw vk : V} {q ft : List Addr} {k w : T} (r1 : RepO Γ F H (n + 1) (.lst ys) u q) (r2 : RepO Γ F H n w vw ft) (nd : (q ++ ft).Nodup) (hk : Rep Γ F H k vk) (hz : setL ys k w = some zs) {Q : Hp → Prop}
    (hq : ∀ H' q', (∀ c o, c ∉ q ++ ft → H c = some o → H' c = some o) → RepO Γ F H' (n + 1) (.lst zs) u q' → q'.Nodup → (∀ c ∈ q', c ∈ q ++ ft) → Q H') : rSetL u vk vw H Q := by
  cases k with
  | int k =>
    cases hk
    have hz1 : (pyIx ys.length k).map (fun j => ys.set j w) = some zs := hz
    cases hj : pyIx ys.length k with
    | none => rw [hj] at hz1; cases hz1
    | some j =>
      rw [hj] at hz1; cases hz1
      obtain ⟨a, vs, fp1, rfl, k1, rfl, k2⟩ := r1
      obtain ⟨hl, hg⟩ := repOL_get k2
      obtain ⟨v0, p, q0, r, e1, rfl, e3, e4⟩ := hg j (ys[j]'(pyIx_lt hj)) (List.getElem?_eq_getElem (pyIx_lt hj))
      refine ⟨a, vs, k, j, rfl, rfl, k1, by rw [← hl]; exact hj, ?_⟩
      have keepH : ∀ b o, b ≠ a → H b = some o → upd H a (.lst (vs.set j vw)) b = some o := fun b o hb e => by rw [upd_ne hb]; exact e
      have hnot : a ∉ p ++ q0 ++ r ++ ft := by
        rw [List.cons_append, List.nodup_cons] at nd
        exact nd.1
      have ht' : ∀ b o, H b = some o → ¬ Mut (some o) → upd H a (.lst (vs.set j vw)) b = some o := fun b o e nm => keepH b o (fun z => by subst z; rw [k1] at e; cases e; exact nm True.intro) e
      refine hq (upd H a (.lst (vs.set j vw))) (a :: (p ++ ft ++ r)) (fun b o hb e => keepH b o (fun z => hb (by rw [z]; simp)) e) ⟨a, vs.set j vw, p ++ ft ++ r, rfl, upd_same, rfl, e4 _ _ w vw ft (Same.refl _) ht' (fun b hb o e => keepH b o (fun z => hnot ?_) e) ?_⟩ (nodup_tail nd) fun b hb => ?_
      · rw [← z]
        rcases List.mem_append.mp hb with hb | hb <;> simp [hb]
      · exact RepO.keep (Same.refl _) ht' w (fun b hb o e => keepH b o (fun z => hnot (by rw [← z]; simp [hb])) e) r2
      · rcases List.mem_cons.mp hb with rfl | hb
        · simp
        · rcases List.mem_append.mp hb with hb | hb
          · rcases List.mem_append.mp hb with hb | hb <;> simp [hb]
          · simp [hb]
  | _ => cases hz
/-- the element j of slot i's list, and a temporary -/
theorem FrS.path {W : Wd} {τ : Tau} {σ : St} {hs : List Slot} {n k i j : Nat} {m : Md} {w y : T} {vw vi : V} {xs : List T} (h : FrS Γ W ms τ σ (hs ++ [(.own k, some w, some vw)])) (hm : ms[i]? = some m) (ho : OwnM (n + 1) m) (hx : τ[i]? = some (some (.lst xs))) (hv : σ[i]? = some (some vi)) (hj : xs[j]? = some y) :
    ∃ a vs u q ft, vi = .ref a ∧ W.H a = some (.lst vs) ∧ xs.length = vs.length ∧ vs[j]? = some u ∧ RepO Γ W.F W.H n y u q ∧ RepO Γ W.F W.H k w vw ft ∧ (q ++ ft).Nodup ∧
      ∀ H' y' q', (∀ c o, c ∉ q ++ ft → W.H c = some o → H' c = some o) → RepO Γ W.F H' n y' u q' → q'.Nodup → (∀ c ∈ q', c ∈ q ++ ft) → FrS Γ { W with H := H' } ms (τ.set i (some (.lst (xs.set j y')))) σ hs := by
  obtain ⟨fs, ft, r1, r2, nd, hb, h4⟩ := h.merge hm hx hv
  obtain ⟨a, vs, fp1, rfl, k1, rfl, k2⟩ := (ownM_ok ho).mp r1
  obtain ⟨hl, hg⟩ := repOL_get k2
  obtain ⟨u, p, q, r, e1, rfl, e3, e4⟩ := hg j y hj
  have nd0 : a ∉ p ++ q ++ r ++ ft := by
    rw [List.cons_append, List.nodup_cons] at nd
    exact nd.1
  have nd1 : (p ++ q ++ r ++ ft).Nodup := by
    rw [List.cons_append, List.nodup_cons] at nd
    exact nd.2
  have nd2 := nd1
  rw [List.nodup_append] at nd1
  obtain ⟨npqr, nft, dft⟩ := nd1
  rw [List.nodup_append] at npqr
  obtain ⟨npq, nr, dr⟩ := npqr
  rw [List.nodup_append] at npq
  obtain ⟨np, nq, dq⟩ := npq
  have nqf : (q ++ ft).Nodup := by
    rw [List.nodup_append]
    exact ⟨nq, nft, fun x hx y hy => dft x (by simp [hx]) y hy⟩
  have out : ∀ c, c ∈ p ++ r → c ∉ q ++ ft := fun c hc hh => by
    rcases List.mem_append.mp hc with hc | hc <;> rcases List.mem_append.mp hh with hh | hh
    · exact dq c hc c hh rfl
    · exact dft c (by simp [hc]) c hh rfl
    · exact dr c (by simp [hh]) c hc rfl
    · exact dft c (by simp [hc]) c hh rfl
  have aout : a ∉ q ++ ft := fun hh => nd0 (by rcases List.mem_append.mp hh with hh | hh <;> simp [hh])
  refine ⟨a, vs, u, q, ft, rfl, k1, hl, e1, e3, r2, nqf, fun H' y' q' hk hr hn hs' => ?_⟩
  have ht' : ∀ b o, W.H b = some o → ¬ Mut (some o) → H' b = some o := fun b o e nm => hk b o (fun hh => by
    rcases List.mem_append.mp hh with hh | hh
    · have := RepO.mut y e3 b hh; rw [e] at this; exact nm this
    · have := RepO.mut w r2 b hh; rw [e] at this; exact nm this) e
  have evs : vs.set j u = vs := by
    obtain ⟨hlt, e⟩ := List.getElem?_eq_some_iff.mp e1
    rw [← e]; exact List.set_getElem_self hlt
  have e5 := e4 W.F H' y' u q' (Same.refl _) ht' (fun b hb o e => hk b o (out b hb) e) hr
  rw [evs] at e5
  refine h4 H' (.lst (xs.set j y')) (a :: (p ++ q' ++ r)) (fun b o hb e => hk b o (fun hh => hb ?_) e) ((ownM_ok ho).mpr ⟨a, vs, p ++ q' ++ r, rfl, hk a _ aout k1, rfl, e5⟩) ?_ fun b hb => .inl ?_
  · rcases List.mem_append.mp hh with hh | hh <;> simp [hh]
  · rw [List.nodup_cons]
    refine ⟨fun hh => ?_, ?_⟩
    · rcases List.mem_append.mp hh with hh | hh
      · rcases List.mem_append.mp hh with hh | hh
        · exact nd0 (by simp [hh])
        · exact aout (hs' _ hh)
      · exact nd0 (by simp [hh])
    · rw [List.nodup_append, List.nodup_append]
      refine ⟨⟨np, hn, fun x hx y hy z => ?_⟩, nr, fun x hx y hy z => ?_⟩
      · subst z; exact out x (by simp [hx]) (hs' x hy)
      · subst z
        rcases List.mem_append.mp hx with hx | hx
        · exact dr x (by simp [hx]) x hy rfl
        · exact out x (by simp [hy]) (hs' x hx)
  · rcases List.mem_cons.mp hb with rfl | hb
    · simp
    · rcases List.mem_append.mp hb with hb | hb
      · rcases List.mem_append.mp hb with hb | hb
        · simp [hb]
        · have := hs' b hb
          rcases List.mem_append.mp this with this | this <;> simp [this]
      · simp [hb]
end
end TL
end
section
set_option Elab.async false
set_option Elab.async false
set_option linter.all false
set_option autoImplicit false
set_option maxRecDepth 100000
set_option maxHeartbeats 4000000
namespace TL
open PySem PySem.Spec L2
section
variable {Γ : Gm} {E : XW} {ms : List Md} {rr : RC}
theorem PstS.bindG {α : Type} {W : Wd} {τ : Tau} {σ : St} {hs : List Slot} {D : Ends} {p : Bool} {m : M α} {f : α → M Ctl} {ok1 : Wd → α → Tau → Prop} (h : PstS Γ E ms rr W σ hs D ((m >>= f) τ))
    (hok : ∀ W1 a τ1, Go p W W1 τ τ1 → PstS Γ E ms rr W1 σ hs D (f a τ1) → ok1 W1 a τ1) : Pst Γ E ms W σ hs p τ ok1 (m τ) := by
  have e : (m >>= f) τ = (m τ).next f := rfl
  rw [e] at h
  cases hm : m τ with
  | stuck => rw [hm] at h; exact h
  | exc x τ1 => rw [hm] at h; exact fun W' cls d g hF hx => h W' σ cls d (.of g.1) hF hx
  | ok a τ1 => rw [hm] at h; exact fun W1 g => hok W1 a τ1 g (h.le (.of g.1))
theorem ofM_ok {α : Type} {o : Option α} {τ : Tau} {f : α → M Ctl} {W : Wd} {σ : St} {hs : List Slot} {D : Ends} (h : PstS Γ E ms rr W σ hs D ((M.of o >>= f) τ)) : ∃ x, o = some x ∧ PstS Γ E ms rr W σ hs D (f x τ) := by
  cases o with
  | none => exact (show False from h).elim
  | some x => exact ⟨x, rfl, h⟩
theorem getP_ok {α : Type} {i : Nat} {τ : Tau} {f : T → M α} {W : Wd} {σ : St} {hs : List Slot} {p : Bool} {ok : Wd → α → Tau → Prop} (h : Pst Γ E ms W σ hs p τ ok ((get i >>= f) τ)) : ∃ x, τ[i]? = some (some x) ∧ Pst Γ E ms W σ hs p τ ok (f x τ) := by
  have h0 : Pst Γ E ms W σ hs p τ ok ((get i τ).next f) := h
  unfold get at h0
  cases ht : τ[i]? with
  | none => rw [ht] at h0; exact h0.elim
  | some o =>
    cases o with
    | none => rw [ht] at h0; exact h0.elim
    | some t => rw [ht] at h0; exact ⟨t, rfl, h0⟩
theorem ofP_ok {α β : Type} {o : Option β} {τ : Tau} {f : β → M α} {W : Wd} {σ : St} {hs : List Slot} {p : Bool} {ok : Wd → α → Tau → Prop} (h : Pst Γ E ms W σ hs p τ ok ((M.of o >>= f) τ)) : ∃ x, o = some x ∧ Pst Γ E ms W σ hs p τ ok (f x τ) := by
  cases o with
  | none => exact (show False from h).elim
  | some x => exact ⟨x, rfl, h⟩
theorem at2_some {x j y : T} (h : at2 x j = some y) : ∃ xs jj k, x = .lst xs ∧ j = .int jj ∧ pyIx xs.length jj = some k ∧ xs[k]? = some y := by
  cases x with
  | lst xs =>
    cases j with
    | int jj =>
      have h1 : pyAt xs jj = some y := h
      unfold pyAt at h1
      cases e : pyIx xs.length jj with
      | none => rw [e] at h1; cases h1
      | some k => rw [e] at h1; exact ⟨xs, jj, k, rfl, rfl, e, h1⟩
    | _ => cases h
  | _ => cases h
theorem put2_of {xs : List T} {jj : Int} {k : Nat} (h : pyIx xs.length jj = some k) (z : T) : put2 (.lst xs) (.int jj) z = some (.lst (xs.set k z)) := by
  show (pyIx xs.length jj).map _ = _
  rw [h]; rfl
theorem atI_of {vs : List V} {jj : Int} {k n : Nat} {u : V} (h : pyIx n jj = some k) (hl : n = vs.length) (e : vs[k]? = some u) : atI vs jj = some u := by
  show (pyIx vs.length jj).bind _ = _
  rw [← hl, h]; exact e
theorem sim_set2 {n i : Nat} {m : Md} {p : Bool} {te tj tk : TE} {e ej ek : M T} {rj rk : RC} (hm : ms[i]? = some m) (ho : OwnM (n + 2) m) (he : SimE Γ E ms p te e (.own n)) (hj : SimE Γ E ms true tj ej rj) (hk : SimE Γ E ms true tk ek rk) :
    SimS Γ E ms rr (tAsg te (gSub (tOp (rIxU Γ) (tVar i) tj) tk (rSetU Γ))) (sSet2 i e ej ek) := by
  intro W τ σ hs D hF hp
  refine he W τ σ hs _ hF (PstS.bind hp fun W1 w τ1 l1 hp1 vw hw => ?_)
  have hw' : FrS Γ W1 ms τ1 σ (hs ++ [(.own n, some w, some vw)]) := hw
  obtain ⟨x0, hx0, hp1⟩ := getM_ok hp1
  obtain ⟨vi, _, hv, _⟩ := hw'.slot hm hx0
  refine ⟨vi, hv, hj W1 τ1 σ _ _ hw' (Pst.hs (hs := hs) (fun _ _ h => h.drop) (PstS.bindG hp1 fun W2 j τ2 g2 hp2 vj hvj => ?_))⟩
  obtain ⟨_, e2⟩ := g2.2 rfl
  subst e2
  obtain ⟨x, hx, hp2⟩ := getM_ok hp2
  obtain ⟨y, hat, hp2⟩ := ofM_ok hp2
  obtain ⟨xs, jj, k, rfl, rfl, hix, hy⟩ := at2_some hat
  have hF2 : FrS Γ W2 ms τ2 σ (hs ++ [(.own n, some w, some vw)]) := hvj.fr
  obtain ⟨a, vs, u, q, ft, rfl, k1, hl, hu, r1, r2, nd, ch⟩ := hF2.path hm ho hx hv hy
  cases hvj.now
  refine .inl (.inl ⟨a, vs, jj, u, rfl, rfl, .inl (.inl k1), atI_of hix hl hu, ?_⟩)
  refine hk W2 τ2 σ _ _ hF2 (Pst.hs (hs := hs) (fun _ _ h => h.drop) (PstS.bindG hp2 fun W3 kk τ3 g3 hp3 vk hvk => ?_))
  obtain ⟨sH, e3⟩ := g3.2 rfl
  subst e3
  have hF3 : FrS Γ W3 ms τ3 σ (hs ++ [(.own n, some w, some vw)]) := hvk.fr
  obtain ⟨a', vs', u', q', ft', e', k1', hl', hu', r1', r2', nd', ch'⟩ := hF3.path hm ho hx hv hy
  cases e'
  have hvs := sH _ _ k1
  rw [k1'] at hvs
  cases hvs
  rw [hu] at hu'
  cases hu'
  obtain ⟨z, hz, hp3⟩ := ofM_ok hp3
  obtain ⟨x', hx', hp3⟩ := ofM_ok hp3
  rw [put2_of hix] at hx'
  cases hx'
  have hp5 : PstS Γ E ms rr W3 σ hs D (.ok .nx (τ3.set i (some (.lst (xs.set k z))))) := hp3
  cases y with
  | lst ys =>
    have hz1 : (setL ys kk w).map T.lst = some z := hz
    cases hzs : setL ys kk w with
    | none => rw [hzs] at hz1; cases hz1
    | some zs =>
      rw [hzs] at hz1; cases hz1
      exact .inl (setL_in r1' r2' nd' hvk.now hzs fun H' q'' c1 c2 c3 c4 => hp5 _ σ ⟨grow_le, fun _ _ _ => rfl⟩ (ch' H' _ q'' c1 c2 c3 c4))
  | _ => cases hz
end
end TL
end
section
set_option Elab.async false
set_option Elab.async false
set_option linter.all false
set_option autoImplicit false
set_option maxRecDepth 100000
set_option maxHeartbeats 4000000
namespace TL
open PySem PySem.Spec L2
end TL
end
section
set_option Elab.async false
set_option Elab.async false
set_option linter.all false
set_option autoImplicit false
set_option maxRecDepth 100000
set_option maxHeartbeats 4000000
namespace TL
open PySem PySem.Spec L2
end TL
end
section
set_option Elab.async false
set_option Elab.async false
set_option linter.all false
set_option autoImplicit false
set_option maxRecDepth 100000
set_option maxHeartbeats 4000000
namespace TL
open PySem PySem.Spec L2
end TL
end
section
set_option Elab.async false
set_option Elab.async false
set_option linter.all false
set_option autoImplicit false
set_option maxRecDepth 100000
set_option maxHeartbeats 4000000
namespace TL
open PySem PySem.Spec L2
section
variable {Γ : Gm} {E : XW} {ms : List Md} {rr : RC}
theorem asP_ok {α : Type} {x : T} {τ : Tau} {f : Bool → M α} {W : Wd} {σ : St} {hs : List Slot} {p : Bool} {ok : Wd → α → Tau → Prop} (h : Pst Γ E ms W σ hs p τ ok ((asB x >>= f) τ)) : ∃ b, x = .bl b ∧ Pst Γ E ms W σ hs p τ ok (f b τ) := by
  cases x with
  | bl b => exact ⟨b, rfl, h⟩
  | _ => exact (show False from h).elim
theorem sim_chain {r r' : R2} {f g : T → T → Option T} {p q q' : Bool} {ta tb tc : TE} {ea eb ec : M T} {ra rb rc : RC} (ho : OpS Γ r f) (ho' : OpS Γ r' g) (ha : SimE Γ E ms p ta ea ra) (hb : SimE Γ E ms q tb eb rb) (hc : SimE Γ E ms q' tc ec rc) (hst : Stay ra q) (hst' : Stay rb q') :
    SimE Γ E ms (p && (q && q')) (tChain r r' ta tb tc) (chainM f g ea eb ec) .fz := by
  intro W τ σ hs Q hF hp
  refine ha W τ σ hs _ hF (Pst.bind hp fun W1 x τ1 g1 hp1 vx h1 => ?_)
  refine hb W1 τ1 σ hs _ h1.fr (Pst.bind hp1 fun W2 y τ2 g2 hp2 vy h2 => ?_)
  have h1' := h1.later g2 h2.fr hst
  obtain ⟨z, hz, hp2⟩ := ofP_ok hp2
  obtain ⟨b, rfl, hp2⟩ := asP_ok hp2
  refine ho W2.F W2.H x y (.bl b) vx vy _ h1'.now h2.now hz fun v hv => ⟨b, hv, ?_⟩
  cases b with
  | false => exact iteF (hp2 W2 ⟨.refl _, fun _ => ⟨Same.refl _, rfl⟩⟩ _ ⟨h2.fr, rfl⟩)
  | true =>
    refine iteT (hc W2 τ2 σ hs _ h2.fr (Pst.bind1 hp2 fun W3 u τ3 g3 hp3 vu h3 => ?_))
    have h2' := h2.later g3 h3.fr hst'
    cases hg : g y u with
    | none => rw [hg] at hp3; exact hp3.elim
    | some w =>
      rw [hg] at hp3
      exact ho' W3.F W3.H y u w vy vu Q h2'.now h3.now hg fun v hv => hp3 W3 Go.refl v ⟨h3.fr, hv.rep⟩
theorem sim_andV {p q : Bool} {ta tb : TE} {ea eb : M T} {ra : RC} (ha : SimE Γ E ms p ta ea ra) (hb : SimE Γ E ms q tb eb .fz) : SimE Γ E ms (p && q) (tAndV ta tb) (andM ea eb) .fz := by
  intro W τ σ hs Q hF hp
  refine ha W τ σ hs _ hF (Pst.bind hp fun W1 x τ1 g1 hp1 vx h1 => ?_)
  obtain ⟨b, rfl, hp1⟩ := asP_ok hp1
  refine ⟨b, h1.now, ?_⟩
  cases b with
  | false => exact iteF (hp1 W1 ⟨.refl _, fun _ => ⟨Same.refl _, rfl⟩⟩ _ ⟨h1.fr, rfl⟩)
  | true => exact iteT (hb W1 τ1 σ hs Q h1.fr hp1)
theorem sim_orV {p q : Bool} {ta tb : TE} {ea eb : M T} {ra : RC} (ha : SimE Γ E ms p ta ea ra) (hb : SimE Γ E ms q tb eb .fz) : SimE Γ E ms (p && q) (tOrV ta tb) (orM ea eb) .fz := by
  intro W τ σ hs Q hF hp
  refine ha W τ σ hs _ hF (Pst.bind hp fun W1 x τ1 g1 hp1 vx h1 => ?_)
  obtain ⟨b, rfl, hp1⟩ := asP_ok hp1
  refine ⟨b, h1.now, ?_⟩
  cases b with
  | true => exact iteT (hp1 W1 ⟨.refl _, fun _ => ⟨Same.refl _, rfl⟩⟩ _ ⟨h1.fr, rfl⟩)
  | false => exact iteF (hb W1 τ1 σ hs Q h1.fr hp1)
theorem sim_notV {p : Bool} {ta : TE} {ea : M T} {ra : RC} (ha : SimE Γ E ms p ta ea ra) : SimE Γ E ms p (tNotV ta) (notM ea) .fz := by
  intro W τ σ hs Q hF hp
  refine ha W τ σ hs _ hF (Pst.bind1 hp fun W1 x τ1 g1 hp1 vx h1 => ?_)
  obtain ⟨b, rfl, hp1⟩ := asP_ok hp1
  exact ⟨b, h1.now, hp1 W1 Go.refl _ ⟨h1.fr, rfl⟩⟩
theorem sim_neg {p : Bool} {ta : TE} {ea : M T} {ra : RC} (ha : SimE Γ E ms p ta ea ra) : SimE Γ E ms p (tUn (rU fun i => .int (-i)) ta) (ea >>= fun x => M.of (oNeg x)) .fz := by
  intro W τ σ hs Q hF hp
  refine ha W τ σ hs _ hF (Pst.bind1 hp fun W1 x τ1 g1 hp1 vx h1 => ?_)
  cases x with
  | int i => exact ⟨i, h1.now, hp1 W1 Go.refl _ ⟨h1.fr, rfl⟩⟩
  | _ => exact (show False from hp1).elim
def SimAF (Γ : Gm) (E : XW) (ms : List Md) (p : Bool) (t : TA) (e : M (List T)) : Prop := ∀ W τ σ hs Q, FrS Γ W ms τ σ hs → Pst Γ E ms W σ hs p τ (fun W' ws τ' => ∀ vs, FrS Γ W' ms τ' σ hs → RepL Γ W'.F W'.F ws vs → Q vs W'.H) (e τ) → t σ W.H Q
theorem sim_nilF : SimAF Γ E ms true tNil (M.pure []) := fun W τ σ hs Q hF hp => hp W Go.refl [] hF rfl
theorem oSeq_some {x : T} {xs : List T} (h : oSeq x = some xs) : x = .lst xs ∨ x = .tup xs := by
  cases x <;> cases h
  · exact .inr rfl
  · exact .inl rfl
theorem seq_of {F H : Hp} {x : T} {xs : List T} {v : V} (h : oSeq x = some xs) (hr : Rep Γ F H x v) : ∃ a vs, v = .ref a ∧ (SqT Γ.K H a vs ∨ SqL Γ.K H a vs) ∧ RepL Γ F H xs vs := by
  rcases oSeq_some h with rfl | rfl
  · obtain ⟨a, vs, rfl, h1, h2⟩ := hr; exact ⟨a, vs, rfl, .inr h1, h2⟩
  · obtain ⟨a, vs, rfl, h1, h2⟩ := hr; exact ⟨a, vs, rfl, .inl h1, h2⟩
theorem repL_app {F G : Hp} : ∀ {ts ts' : List T} {vs vs' : List V}, RepL Γ F G ts vs → RepL Γ F G ts' vs' → RepL Γ F G (ts ++ ts') (vs ++ vs')
  | [], _, _, _, h, h' => by rw [show _ = [] from h]; exact h'
  | x :: ts, _, _, _, h, h' => by
    obtain ⟨v, r, rfl, h1, h2⟩ := h
    exact ⟨v, _, rfl, h1, repL_app h2 h'⟩
theorem sim_starI {p q : Bool} {te : TE} {tr : TA} {e : M T} {f : M (List T)} {r : RC} (h1 : SimE Γ E ms p te e r) (h2 : SimAF Γ E ms q tr f) : SimAF Γ E ms (p && q) (StX.tStar Γ.K te tr) (starM e f) := by
  intro W τ σ hs Q hF hp
  refine h1 W τ σ hs _ hF (Pst.bind hp fun W1 x τ1 g1 hp1 vx hx => ?_)
  obtain ⟨xs, hsq, hp1⟩ := ofP_ok hp1
  by_cases hi : imms xs = true
  · have hp2 : Pst Γ E ms W1 σ hs q τ1 (fun W' ws τ' => ∀ vs, FrS Γ W' ms τ' σ hs → RepL Γ W'.F W'.F ws vs → Q vs W'.H) ((f >>= fun ys => M.pure (xs ++ ys)) τ1) := by
      have : (immsC xs >>= fun xs => f >>= fun ys => M.pure (xs ++ ys)) τ1 = (f >>= fun ys => M.pure (xs ++ ys)) τ1 := by
        unfold immsC; rw [if_pos hi]; rfl
      rw [← this]; exact hp1
    obtain ⟨a, vs, rfl, hv, hl⟩ := seq_of hsq hx.now
    refine ⟨a, vs, rfl, hv, ?_⟩
    obtain ⟨lf, ff⟩ := hx.fr.fix
    have hl2 := imms_rep (F' := W1.fix.F) lf.f (fix_t hx.fr.fr) xs hi hl
    have hp3 : Pst Γ E ms W1.fix σ hs q τ1 (fun W' ws τ' => ∀ vs, FrS Γ W' ms τ' σ hs → RepL Γ W'.F W'.F ws vs → Q vs W'.H) ((f >>= fun ys => M.pure (xs ++ ys)) τ1) := by
      cases hr : (f >>= fun ys => (M.pure (xs ++ ys) : M (List T))) τ1 with
      | stuck => rw [hr] at hp2; exact hp2
      | exc y τ2 => rw [hr] at hp2; exact fun W' cls d g => hp2 W' cls d ⟨lf.trans g.1, fun z => g.2 z⟩
      | ok y τ2 => rw [hr] at hp2; exact fun W' g => hp2 W' ⟨lf.trans g.1, fun z => g.2 z⟩
    refine h2 W1.fix τ1 σ hs _ ff (Pst.bind1 hp3 fun W2 ys τ2 g2 hp4 us hF2 hus => ?_)
    exact hp4 W2 Go.refl (vs ++ us) hF2 (repL_app (RepL.mono g2.1.f xs g2.1.f hl2) hus)
  · have : (immsC xs >>= fun xs => f >>= fun ys => M.pure (xs ++ ys)) τ1 = .stuck := by
      unfold immsC; rw [if_neg hi]; rfl
    rw [this] at hp1; exact hp1.elim
theorem sim_starF {p q : Bool} {te : TE} {tr : TA} {e : M T} {f : M (List T)} (h1 : SimE Γ E ms p te e .fz) (h2 : SimAF Γ E ms q tr f) : SimAF Γ E ms (p && q) (StX.tStar Γ.K te tr) (starFM e f) := by
  intro W τ σ hs Q hF hp
  refine h1 W τ σ hs _ hF (Pst.bind hp fun W1 x τ1 g1 hp1 vx hx => ?_)
  obtain ⟨xs, hsq, hp1⟩ := ofP_ok hp1
  obtain ⟨a, vs, rfl, hv, hl⟩ := seq_of hsq hx.2
  have fr := hx.fr.fr
  refine ⟨a, vs, rfl, hv.imp (sqT_sub (fr.fb.trans fr.bh)) (sqL_sub (fr.fb.trans fr.bh)), ?_⟩
  refine h2 W1 τ1 σ hs _ hx.fr (Pst.bind1 hp1 fun W2 ys τ2 g2 hp4 us hF2 hus => ?_)
  exact hp4 W2 Go.refl (vs ++ us) hF2 (repL_app (RepL.mono g2.1.f xs g2.1.f hl) hus)
theorem sim_lstF {p : Bool} {ta : TA} {e : M (List T)} (ha : SimAF Γ E ms p ta e) : SimE Γ E ms p (tLst ta) (e >>= fun ts => M.of (oLst ts)) (.own 1) := by
  intro W τ σ hs Q hF hp
  refine ha W τ σ hs _ hF (Pst.bind1 hp fun W1 ts τ1 g1 hp1 vs hF1 hv => ?_)
  unfold oLst at hp1
  by_cases hl : ts.length ≤ szL
  · rw [if_pos hl] at hp1
    refine ⟨len_le hv hl, fun q hq => ?_⟩
    exact hp1 ⟨W1.F, W1.B, upd W1.H q (.lst vs)⟩ ⟨grow_le, fun _ => ⟨upd_sub hq, rfl⟩⟩ (.ref q) ⟨by rw [← List.append_assoc]; exact hF1.fr.newL hq hv, hF1.lt, hF1.lv⟩
  · rw [if_neg hl] at hp1; exact hp1.elim
end
end TL
end
section
set_option Elab.async false
set_option Elab.async false
set_option linter.all false
set_option autoImplicit false
set_option maxRecDepth 100000
set_option maxHeartbeats 4000000
namespace TL
open PySem PySem.Spec L2
end TL
end
section
set_option Elab.async false
set_option Elab.async false
set_option linter.all false
set_option autoImplicit false
set_option maxRecDepth 100000
set_option maxHeartbeats 4000000
namespace TL
open PySem PySem.Spec L2
theorem uu9 {k : Nat} {A : Around} (r : Room k A) : A.units + 9 < cLine := by have := r.un; omega
section
variable {P : Program} {w : World} {K : PySem.W.Frag} {mg : Str → Option Value} {base : Heap} {k : Nat} {nm qual : Str} {st : Stmt} {f : Addr} {fd : FuncData} {N ps : List Str} {Γ : Gm} {pms : List Md} {rr : RC} {m : List T → RE T}
theorem fmT (F : L2.Fun K nm qual st f fd) (S : FnScope N ps (defScope st)) (hl : ps.length = pms.length)
    (hb : ∀ (cdv : Value) (A : Around) (outer : List Env) (s : Shared) (H : Hp) (Q : VK) (E : XK) (vs : List V), Room k (A.deeper (PyProof.Rows.envOfC qual (defScope st) s.heap.objs.size f cdv)) → spT Γ pms rr m vs H Q E →
      ∃ t, PSs (cxOf CX0 P w K mg base N qual (defScope st) f cdv A outer s H E).nox (defBody st) t ∧ t { nx := fun _ H' => Q .non H', rt := Q } (L2.start N vs) H) : FnOk P w K mg base CX0 (k + 1) f fd ps (spT Γ pms rr m) := by
  refine F.ok S ?_ ?_
  · rintro vs H Q E ⟨_, _, _, h, _⟩; rw [h, hl]
  · intro cdv A outer s H vs Q E hr h; exact hb cdv A outer s H Q E vs hr h
theorem calT (F : L2.Fun K nm nm st f fd) (g : mg nm = some (.ref f)) (S : FnScope N ps (defScope st)) (bd : Binds K fd ps []) (hl : ps.length = pms.length)
    (hb : ∀ (cdv : Value) (A : Around) (outer : List Env) (s : Shared) (H : Hp) (Q : VK) (E : XK) (vs : List V), Room k (A.deeper (PyProof.Rows.envOfC nm (defScope st) s.heap.objs.size f cdv)) → spT Γ pms rr m vs H Q E →
      ∃ t, PSs (cxOf CX0 P w K mg base N nm (defScope st) f cdv A outer s H E).nox (defBody st) t ∧ t { nx := fun _ H' => Q .non H', rt := Q } (L2.start N vs) H) : C8.Cal P w K mg base (k + 1) nm (spT Γ pms rr m) [] :=
  ⟨f, fd, ps, [], fmT F S hl hb, g, F.kp, bd, .nil⟩
theorem hlen_of {s : M Ctl} {np N : Nat} : ∀ ts w τ', noX (runF s np N) ts = .ok w τ' → τ'.length = np := fun _ _ _ h => runF_ok h
theorem hlen_ex {s : M Ctl} {np N : Nat} : ∀ ts x τ', noX (runF s np N) ts = .exc x τ' → τ'.length = np := fun _ _ _ h => runF_exc h
theorem noNow_of {cs : List RC} (h : cs.all (fun c => decide (c ≠ .now)) = true) : NoNow cs := fun c hc => by
  have := List.all_eq_true.mp h c hc
  simpa using this
theorem kit_bool : KitOk "bool" := by unfold KitOk; decide +kernel
theorem kit_int : KitOk "int" := by unfold KitOk; decide +kernel
theorem kit_str : KitOk "str" := by unfold KitOk; decide +kernel
theorem kit_list : KitOk "list" := by unfold KitOk; decide +kernel
theorem kit_tuple : KitOk "tuple" := by unfold KitOk; decide +kernel
theorem sim_callL {E EC : XW} {ms : List Md} {p1 p2 : List Md} {c1 c2 : List RC} {n i : Nat} {pms : List Md} {cs : List RC} {mi : Md} {p : Bool} {ta : TA} {e : M (List T)} (ha : SimA Γ E ms p ta e cs) (ep : pms = p1 ++ .lent n :: p2) (ec : cs = c1 ++ .slot i :: c2)
    (hi : ms[i]? = some mi) (hal : Alike mi (.lent n)) (hc1 : TL.Args c1 p1) (hc2 : TL.Args c2 p2) (hn : NoNow (c1 ++ c2)) (hlen : ∀ ts w τ', m ts = .ok w τ' → τ'.length = pms.length) (hlen' : ∀ ts x τ', m ts = .exc x τ' → τ'.length = pms.length) (hr : Back rr) (hE : Wsh m EC E := by first | exact .inr rfl | exact .inl noX_ne) :
    SimE Γ E ms false (tCallW (spT Γ pms rr m) EC ta) (callL m i p1.length e) rr := sim_call1 p1 p2 c1 c2 n i ha ep ec hi hal hc1 hc2 hn hlen hlen' hr hE
/-- a list of whole numbers is handed to the law -/
theorem ints_rep {F H : Hp} : ∀ ns : List Int, RepL Γ F H (ns.map .int) (ns.map V.int)
  | [] => rfl
  | n :: ns => ⟨.int n, _, rfl, rfl, ints_rep ns⟩
theorem law_sp {a : Addr} {ns : List Int} {H : Hp} {Q : VK} {E : XK} {τ : Tau} (hΓ : Γ.K = K) (hS : SqL K H a (ns.map V.int)) (hm : m [.lst (ns.map .int)] = .ok (.bl true) τ) (hQ : ∀ H', Q (.bl true) H') (hrr : rr = .fz) : spT Γ [.sh] rr m [.ref a] H Q E := by
  subst hΓ hrr
  have f0 : Fr Γ ⟨hp0, H, H⟩ [] := ⟨hp0_sub, Same.refl _, [], .nil, by simp, fun a h => by simp at h⟩
  have f1 : Fr Γ ⟨hp0, H, H⟩ ([] ++ [(.sh, some (.lst (ns.map .int)), some (.ref a))]) := f0.share ⟨a, _, rfl, hS, ints_rep ns⟩
  refine ⟨⟨hp0, H, H⟩, [.lst (ns.map .int)], rfl, rfl, ⟨by simpa [sl] using f1, rfl, rfl⟩, ?_⟩
  rw [hm]
  intro W' v _ hh
  cases (show v = .bl true from hh.2)
  exact hQ _
end
end TL
end
section
set_option Elab.async false
set_option Elab.async false
set_option linter.all false
set_option autoImplicit false
set_option maxRecDepth 100000
set_option maxHeartbeats 4000000
namespace TL
open PySem PySem.Spec L2
section
variable {Γ : Gm} {E : XW} {ms : List Md} {rr : RC}
theorem asL_ok {α : Type} {x : T} {τ : Tau} {f : List T → M α} {W : Wd} {σ : St} {hs : List Slot} {p : Bool} {ok : Wd → α → Tau → Prop} (h : Pst Γ E ms W σ hs p τ ok ((asL x >>= f) τ)) : ∃ xs, x = .lst xs ∧ Pst Γ E ms W σ hs p τ ok (f xs τ) := by
  cases x with
  | lst xs => exact ⟨xs, rfl, h⟩
  | _ => exact (show False from h).elim
theorem bind_assoc {α β γ : Type} (a : M α) (f : α → M β) (g : β → M γ) : (a >>= f) >>= g = a >>= fun x => f x >>= g := by
  funext τ
  show ((a τ).next f).next g = (a τ).next fun x => f x >>= g
  cases a τ <;> rfl
theorem sim_lcOX {n n0 i : Nat} {m0 : Md} {q q' : Bool} {g : TG} {bg : T → M Unit} {tt : TT} {et : M Bool} {te : TE} {ee : M T} {vs : List Nat} (hm : ms[i]? = some m0) (ho : OwnM (n0 + 1) m0) (hvs : ∀ v ∈ vs, v < ms.length) (hg : SimGv Γ ms vs g bg .fz) (ht : SimT Γ E0 ms q tt et) (he : SimE Γ E0 ms q' te ee (.own n)) (hne : ∀ x τ, ∀ y τ', bg x τ ≠ .exc y τ')
    (hx1 : ∀ τ, ∀ y τ', et τ ≠ .exc y τ') (hx2 : ∀ τ, ∀ y τ', ee τ ≠ .exc y τ') : SimE Γ E ms false (tLc (iU Γ (tVar i)) g tt te vs) (sLcO vs i bg et ee) (.own (n + 1)) := by
  intro W1 τ1 σ hs Q hF1 hp
  obtain ⟨x0, hx0, hp⟩ := getP_ok hp
  obtain ⟨xs0, rfl, hp1⟩ := asL_ok hp
  obtain ⟨vi, fp0, hv, _, hsl0, _, _⟩ := hF1.slot hm hx0
  obtain ⟨a, vs0, fp1, rfl, k1, rfl, k2⟩ := (ownM_ok ho).mp hsl0
  refine ⟨.ref a, hv, .inr ⟨a, rfl, .inl ⟨⟨vs0, .inl (.inl k1)⟩, ?_⟩⟩⟩
  intro D hD
  have lv := hF1.lv
  refine ⟨fun k m H' => ∃ W' τ' ts, W'.H = H' ∧ W1.Le W' ∧ FrS Γ W' ms τ' σ (hs ++ [(.own (n + 1), some (.lst ts), some (.ref D))]) ∧ Pst Γ E ms W' σ hs false τ' (fun W' w τ' => ∀ v, Has Γ W' ms τ' σ hs (.own (n + 1)) w v → Q v W'.H) ((lcO vs i bg et ee m k ts >>= fun ws => M.pure (.lst ws)) τ'),
    ⟨xs0.length + 1, ⟨W1.F, W1.B, upd W1.H D (.lst [])⟩, τ1, [], rfl, grow_le, ⟨?_, hF1.lt, hF1.lv⟩, ?_⟩, ?_⟩
  · rw [← List.append_assoc]
    exact hF1.fr.new (H' := upd W1.H D (.lst [])) (upd_sub hD) (fp := [D]) ⟨D, [], [], rfl, upd_same, rfl, rfl, rfl⟩ (by simp) fun a ha => by rw [List.mem_singleton.mp ha]; exact hD
  · have hp1' : Pst Γ E ms W1 σ hs false τ1 (fun W' w τ' => ∀ v, Has Γ W' ms τ' σ hs (.own (n + 1)) w v → Q v W'.H) ((lcO vs i bg et ee (xs0.length + 1) 0 [] >>= fun ws => M.pure (.lst ws)) τ1) := hp1
    cases hr : (lcO vs i bg et ee (xs0.length + 1) 0 [] >>= fun ws => (M.pure (T.lst ws) : M T)) τ1 with
    | stuck => rw [hr] at hp1'; exact hp1'.elim
    | exc x τ' => rw [hr] at hp1'; exact fun W' cls d g => hp1' W' cls d ⟨grow_le.trans g.1, fun z => nomatch z⟩
    | ok x τ' => rw [hr] at hp1'; exact fun W' g => hp1' W' ⟨grow_le.trans g.1, fun z => nomatch z⟩
  · rintro k m H2 ⟨W2, τ2, ts, rfl, l2, hF2, hp2⟩
    cases m with
    | zero => exact (show False from hp2).elim
    | succ m =>
    have hp2b : Pst Γ E ms W2 σ hs false τ2 (fun W' w τ' => ∀ v, Has Γ W' ms τ' σ hs (.own (n + 1)) w v → Q v W'.H) ((get i >>= fun x => (asL x >>= fun xs => match xs[k]? with
      | none => M.pure ts
      | some t => immC t >>= fun t => wipeM vs >>= fun _ => bg t >>= fun _ => et >>= fun b => if b = true then ee >>= fun w => (if ts.length < szL then M.pure () else M.stuck) >>= fun _ => wipeM vs >>= fun _ => lcO vs i bg et ee m (k + 1) (ts ++ [w]) else wipeM vs >>= fun _ => lcO vs i bg et ee m (k + 1) ts) >>= fun ws => M.pure (.lst ws)) τ2) := by
      rw [← bind_assoc]; exact hp2
    obtain ⟨x, hx, hp2c⟩ := getP_ok hp2b
    cases x with
    | lst xs =>
      obtain ⟨vi', fp, hv', _, hsl, _, _⟩ := hF2.slot hm hx
      rw [hv] at hv'
      cases hv'
      obtain ⟨a', us, fp2, e, c1, rfl, c2⟩ := (ownM_ok ho).mp hsl
      cases e
      have fr2 := hF2.fr
      have fh := fr2.fb.trans fr2.bh
      obtain ⟨hl, _⟩ := repOL_get c2
      have hp3a : Pst Γ E ms W2 σ hs false τ2 (fun W' w τ' => ∀ v, Has Γ W' ms τ' σ hs (.own (n + 1)) w v → Q v W'.H) (((match xs[k]? with
        | none => M.pure ts
        | some t => immC t >>= fun t => wipeM vs >>= fun _ => bg t >>= fun _ => et >>= fun b => if b = true then ee >>= fun w => (if ts.length < szL then M.pure () else M.stuck) >>= fun _ => wipeM vs >>= fun _ => lcO vs i bg et ee m (k + 1) (ts ++ [w]) else wipeM vs >>= fun _ => lcO vs i bg et ee m (k + 1) ts) >>= fun ws => M.pure (.lst ws)) τ2) := hp2c
      cases hk : xs[k]? with
      | none =>
        rw [hk] at hp3a
        left
        refine ⟨⟨us, .inl (.inl c1), ?_⟩, (show Pst Γ E ms W2 σ hs false τ2 (fun W' w τ' => ∀ v, Has Γ W' ms τ' σ hs (.own (n + 1)) w v → Q v W'.H) (.ok (.lst ts) τ2) from hp3a) W2 Go.refl (.ref D) hF2⟩
        rw [← hl]; exact List.getElem?_eq_none_iff.mp hk
      | some t =>
        rw [hk] at hp3a
        right
        have rl : RepL Γ W2.F W2.H xs us := RepOL.rep (Same.refl _) fh (fun _ _ e _ => e) xs (fun _ _ _ e => e) c2
        obtain ⟨v, ev, rv⟩ := (repL_get rl).2 k t hk
        refine ⟨⟨us, v, .inl (.inl c1), ev⟩, fun H' => ∃ W' τ' ts, W'.H = H' ∧ W1.Le W' ∧ FrS Γ W' ms τ' σ (hs ++ [(.own (n + 1), some (.lst ts), some (.ref D))]) ∧ Pst Γ E ms W' σ hs false τ' (fun W' w τ' => ∀ v, Has Γ W' ms τ' σ hs (.own (n + 1)) w v → Q v W'.H) ((lcO vs i bg et ee m (k + 1) ts >>= fun ws => M.pure (.lst ws)) τ'), ?_, ?_⟩
        · rintro H' ⟨W', τ', ts', rfl, l', hF', hp'⟩
          exact ⟨m, by omega, W', τ', ts', rfl, l', hF', hp'⟩
        intro v' H' hy
        obtain ⟨rfl, hy⟩ := hy
        have ev' := hy us (.inl (.inl c1))
        rw [ev] at ev'
        cases ev'
        by_cases him : imm t = true
        · have hp3 : Pst Γ E ms W2 σ hs false τ2 (fun W' w τ' => ∀ v, Has Γ W' ms τ' σ hs (.own (n + 1)) w v → Q v W'.H) (((bg t (wipeT τ2 vs)).next fun _ => et >>= fun b => if b = true then ee >>= fun w => (if ts.length < szL then M.pure () else M.stuck) >>= fun _ => wipeM vs >>= fun _ => lcO vs i bg et ee m (k + 1) (ts ++ [w]) else wipeM vs >>= fun _ => lcO vs i bg et ee m (k + 1) ts).next fun ws => M.pure (.lst ws)) := by
            have : immC t = M.pure t := by unfold immC; rw [if_pos him]
            simp only [this] at hp3a
            exact hp3a
          obtain ⟨l3, hF3'⟩ := hF2.fix
          have hr3 : Rep Γ W2.fix.F (GOf W2.fix .fz) t v := imm_rep l3.f (fix_t fr2) t him rv
          generalize hW3 : W2.fix = W3 at l3 hF3' hr3
          have eH : W3.H = W2.H := by rw [← hW3]; rfl
          rw [← eH]
          have hFw := hF3'.wipe vs hvs
          cases hbg : bg t (wipeT τ2 vs) with
          | stuck => rw [hbg] at hp3; exact hp3.elim
          | exc y τ3 => exact (hne _ _ _ _ hbg).elim
          | ok u τ3 =>
          rw [hbg] at hp3
          have hp4 : Pst Γ E ms W2 σ hs false τ2 (fun W' w τ' => ∀ v, Has Γ W' ms τ' σ hs (.own (n + 1)) w v → Q v W'.H) (((et τ3).next fun b => if b = true then ee >>= fun w => (if ts.length < szL then M.pure () else M.stuck) >>= fun _ => wipeM vs >>= fun _ => lcO vs i bg et ee m (k + 1) (ts ++ [w]) else wipeM vs >>= fun _ => lcO vs i bg et ee m (k + 1) ts).next fun ws => M.pure (.lst ws)) := hp3
          have later : ∀ {W' : Wd} {τ' : Tau} {r : RE T}, W2.Le W' → Pst Γ E ms W2 σ hs false τ2 (fun W' w τ' => ∀ v, Has Γ W' ms τ' σ hs (.own (n + 1)) w v → Q v W'.H) r → Pst Γ E ms W' σ hs false τ' (fun W' w τ' => ∀ v, Has Γ W' ms τ' σ hs (.own (n + 1)) w v → Q v W'.H) r := by
            intro W' τ' r l h
            cases r with
            | stuck => exact h
            | exc x τ'' => exact fun W'' cls d g => h W'' cls d ⟨l.trans g.1, fun z => nomatch z⟩
            | ok x τ'' => exact fun W'' g => h W'' ⟨l.trans g.1, fun z => nomatch z⟩
          refine hg W3 (wipeT τ2 vs) (L2.wipe σ vs) _ t v _ τ3 hFw hr3 hbg fun W4 σ4 l4 hw4 hF4 => ?_
          have hw4' : L2.wipe σ4 vs = L2.wipe σ vs := by
            rw [hw4]
            have idem : ∀ us : List Nat, (∀ u ∈ us, u ∈ vs) → L2.wipe (L2.wipe σ vs) us = L2.wipe σ vs := by
              intro us
              induction us with
              | nil => intro _; rfl
              | cons u us ih =>
                intro h
                show (L2.wipe (L2.wipe σ vs) us).set u none = L2.wipe σ vs
                rw [ih fun w hw => h w (List.mem_cons_of_mem _ hw)]
                have : ∀ {ws : List Nat}, u ∈ ws → (L2.wipe σ ws).set u none = L2.wipe σ ws := by
                  intro ws
                  induction ws with
                  | nil => intro h; simp at h
                  | cons w ws ih =>
                    intro h
                    unfold L2.wipe
                    by_cases e : w = u
                    · subst e; rw [List.set_set]
                    · rw [List.set_comm _ _ (fun z => e z), ih (by rcases List.mem_cons.mp h with h | h; exact (e h.symm).elim; exact h)]
                exact this (h u (by simp))
            exact idem vs fun u hu => hu
          refine ⟨hw4', ?_⟩
          refine ht W4 τ3 σ4 _ _ hF4 ?_
          cases het : et τ3 with
          | stuck => rw [het] at hp4; exact hp4.elim
          | exc y τ5 => exact (hx1 _ _ _ het).elim
          | ok b τ5 =>
            rw [het] at hp4
            intro W5 g5 hF5
            cases b with
            | false =>
              refine iteF ⟨W5, wipeT τ5 vs, ts, rfl, ((l2.trans l3).trans l4).trans g5.1, hF5.unwipe hvs hw4' lv, ?_⟩
              exact later ((l3.trans l4).trans g5.1) hp4
            | true =>
              have hp5 : Pst Γ E ms W2 σ hs false τ2 (fun W' w τ' => ∀ v, Has Γ W' ms τ' σ hs (.own (n + 1)) w v → Q v W'.H) (((ee τ5).next fun w => (if ts.length < szL then M.pure () else M.stuck) >>= fun _ => wipeM vs >>= fun _ => lcO vs i bg et ee m (k + 1) (ts ++ [w])).next fun ws => M.pure (.lst ws)) := hp4
              refine iteT (he W5 τ5 σ4 _ _ hF5 ?_)
              cases hee : ee τ5 with
              | stuck => rw [hee] at hp5; exact hp5.elim
              | exc y τ6 => exact (hx2 _ _ _ hee).elim
              | ok w τ6 =>
                rw [hee] at hp5
                intro W6 g6 vw hvw
                have hw6 : FrS Γ W6 ms τ6 σ4 ((hs ++ [(.own (n + 1), some (.lst ts), some (.ref D))]) ++ [(.own n, some w, some vw)]) := hvw
                have hp6 : Pst Γ E ms W2 σ hs false τ2 (fun W' w τ' => ∀ v, Has Γ W' ms τ' σ hs (.own (n + 1)) w v → Q v W'.H) ((((if ts.length < szL then M.pure () else M.stuck) >>= fun _ => wipeM vs >>= fun _ => lcO vs i bg et ee m (k + 1) (ts ++ [w])) τ6).next fun ws => M.pure (.lst ws)) := hp5
                by_cases hz : ts.length < szL
                · rw [if_pos hz] at hp6
                  -- the item joins the list
                  have fr6 := hw6.fr
                  have pm : (sl ms τ6 σ4 ++ (hs ++ [(Md.own (n + 1), some (T.lst ts), some (V.ref D))] ++ [(Md.own n, some w, some vw)])).Perm ((.own (n + 1), some (.lst ts), some (.ref D)) :: (.own n, some w, some vw) :: (sl ms τ6 σ4 ++ hs)) := by
                    rw [← List.append_assoc, ← List.append_assoc]
                    refine (List.Perm.append_right _ List.perm_append_comm).trans ?_
                    simp only [List.cons_append, List.nil_append]
                    exact List.Perm.cons _ List.perm_append_comm
                  obtain ⟨fs, ft, r1, r2, nd, hb, h4⟩ := (fr6.perm pm).head2
                  obtain ⟨a', us, fp1, e1, k1, rfl, k2⟩ := (show RepO Γ W6.F W6.H (n + 1) (.lst ts) (.ref D) fs from r1)
                  cases e1
                  have r2' : RepO Γ W6.F W6.H n w vw ft := r2
                  have hlen : ts.length = us.length := (repOL_get k2).1
                  refine ⟨us, k1, by rw [← hlen, ← szL_eq]; exact hz, ?_⟩
                  have keepH : ∀ b o, b ≠ D → W6.H b = some o → upd W6.H D (.lst (us ++ [vw])) b = some o := fun b o hb e => by rw [upd_ne hb]; exact e
                  have hnot : D ∉ fp1 ++ ft := by
                    rw [List.cons_append, List.nodup_cons] at nd
                    exact nd.1
                  have ht' : ∀ b o, W6.H b = some o → ¬ Mut (some o) → upd W6.H D (.lst (us ++ [vw])) b = some o := fun b o e nm => keepH b o (fun z => by subst z; rw [k1] at e; cases e; exact nm True.intro) e
                  have f7 := h4 (upd W6.H D (.lst (us ++ [vw]))) (.own (n + 1), some (.lst (ts ++ [w])), some (.ref D)) (D :: (fp1 ++ ft)) (fun b o hb e => keepH b o (fun z => hb (by rw [z]; simp)) e) ⟨D, us ++ [vw], fp1 ++ ft, rfl, upd_same, rfl, repOL_snoc (RepO.keep (Same.refl _) ht' w (fun b hb o e => keepH b o (fun z => hnot (by rw [← z]; simp [hb])) e) r2') (RepOL.keep (Same.refl _) ht' ts (fun b hb o e => keepH b o (fun z => hnot (by rw [← z]; simp [hb])) e) k2)⟩ (by simpa using nd) (fun b hb => .inl (by simpa using hb))
                  have f8 : FrS Γ { W6 with H := upd W6.H D (.lst (us ++ [vw])) } ms τ6 σ4 (hs ++ [(.own (n + 1), some (.lst (ts ++ [w])), some (.ref D))]) := ⟨by
                    rw [← List.append_assoc]
                    exact f7.perm (List.perm_append_comm (l₁ := [_])), hw6.lt, hw6.lv⟩
                  refine ⟨{ W6 with H := upd W6.H D (.lst (us ++ [vw])) }, wipeT τ6 vs, ts ++ [w], rfl, (((l2.trans l3).trans l4).trans (g5.1.trans g6.1)).trans grow_le, f8.unwipe hvs hw4' lv, ?_⟩
                  exact later (((l3.trans l4).trans (g5.1.trans g6.1)).trans grow_le) hp6
                · rw [if_neg hz] at hp6; exact hp6.elim
        · have : immC t = M.stuck := by unfold immC; rw [if_neg him]
          simp only [this] at hp3a
          exact (show False from hp3a).elim
    | _ => exact (show False from hp2c).elim
theorem sim_lcO {n n0 i : Nat} {m0 : Md} {q q' : Bool} {g : TG} {bg : T → M Unit} {tt : TT} {et : M Bool} {te : TE} {ee : M T} {vs : List Nat} (hm : ms[i]? = some m0) (ho : OwnM (n0 + 1) m0) (hvs : ∀ v ∈ vs, v < ms.length) (hg : SimGv Γ ms vs g bg .fz) (hne : ∀ x τ, ∀ y τ', bg x τ ≠ .exc y τ') (ht : SimT Γ E0 ms q tt et) (he : SimE Γ E0 ms q' te ee (.own n)) :
    SimE Γ E ms false (tLc (iU Γ (tVar i)) g tt te vs) (sLcO vs i bg (TL.noE et) (TL.noE ee)) (.own (n + 1)) := sim_lcOX hm ho hvs hg ht.noE he.noE hne (noE_ne et) (noE_ne ee)
end
end TL
end
section
set_option Elab.async false
set_option Elab.async false
set_option linter.all false
set_option autoImplicit false
set_option maxRecDepth 100000
set_option maxHeartbeats 4000000
namespace TL
open PySem PySem.SeqAt
open AutoSeq1 (wpAny_loadPart')
open MeetsSeq MeetsSeq2 MeetsSeq3 SeqRoads2
theorem list_add_sl (l : Addr) (items : Array Value) (n : Nat) (b : Addr) (items2 : Array Value) (n2 : Nat) (sl sl2 : Array (Option Value)) (hc0 : items.size + items2.size ≤ sizeLine) :
    Meets (Builtin.«list.__add__» ⟨[.ref l, .ref b], []⟩) (fun _ R s => s.heap.get? l = some { cls := .type "list", dict := none, data := .seq items n, slots := sl } ∧ s.heap.get? b = some { cls := .type "list", dict := none, data := .seq items2 n2, slots := sl2 } ∧ R (.ok (.ret (Value.ref s.heap.objs.size))) { s with heap := s.heap.push { cls := Value.type "list", data := Data.seq (items ++ items2) }, toks := s.toks }) :=
  .of_wp fun prog w A R s h => by obtain ⟨hp, g, d, tk, os⟩ := s; obtain ⟨hl, hb, h⟩ := h; have f1 := AutoSeq1.idx_int; have f2 := AutoSeq1.sub_tuple_tuple; have f3 := AutoSeq1.sub_list_list; have f4 := AutoSeq1.sub_tuple_list; have f5 := AutoSeq1.sub_list_tuple; wp_walk using wpAny_loadPart' hl, wpAny_loadPart' hb; exact ⟨_, rfl, h⟩
end TL
namespace TL
open PySem PySem.Spec PyProof.Rows L2
section
variable {X : Cx}
/-- xs + ys, both read -/
def rCatQ (K : PySem.W.Frag) : R2 := fun x y H Q => ∃ l b xs zs, x = .ref l ∧ y = .ref b ∧ SqL K H l xs ∧ SqL K H b zs ∧ xs.length + zs.length ≤ sizeLine ∧ ∀ p, H p = none → Q (.ref p) (upd H p (.lst (xs ++ zs)))
theorem op_catQ : OpR X (binaryOp .Add) (rCatQ X.K) := by
  intro pins s σ H x y v u Q I rx ry h
  obtain ⟨l, b, xs, zs, rfl, rfl, hH, hB, hz, q⟩ := h
  cases rx
  cases ry
  obtain ⟨its, r, ⟨⟨c1, d1, da1, sl1⟩, n, e, hc, hd, hda⟩, _⟩ := I.list hH
  obtain ⟨its2, r2, ⟨⟨c2, d2, da2, sl2⟩, n2, e2, hc2, hd2, hda2⟩, _⟩ := I.list hB
  simp only at hc hd hda hc2 hd2 hda2
  subst hc hd hda hc2 hd2 hda2
  have hl : xs.length = its.length := r.length
  have hl2 : zs.length = its2.length := r2.length
  refine concat_meets ⟨_, e, rfl⟩ ⟨_, e2, rfl⟩ noFill_list_add seq_list_add F.slot_list_add F.entry_list_add (F.args_list_add_2 _ _) (list_add_sl l its.toArray n b its2.toArray n2 sl1 sl2 (by rw [List.size_toArray, List.size_toArray]; omega)) ⟨e, e2, ?_⟩
  have ea : its.toArray ++ its2.toArray = (its ++ its2).toArray := by simp
  rw [ea]
  exact ⟨.ref _, _, I.lnew (t' := s.toks) (r.append r2) (by rw [List.length_append]; omega), rfl, q _ I.fresh⟩
/-- + of whole numbers, texts, lists, tuples -/
def rAddQ (K : PySem.W.Frag) : R2 := fun x y H Q => rAddU x y H Q ∨ (rCatQ K x y H Q ∨ rCatA K x y H Q)
theorem opQ_add {Γ : Gm} (hK : Γ.K = X.K) : OpR X (binaryOp .Add) (rAddQ Γ.K) := by
  rw [hK]
  exact op_or opU_add (op_or op_catQ op_catA)
end
end TL
namespace TL
open PySem PySem.Spec L2
open PyProof.Rows (subscriptTail Subscript_)
/-- a def by its class that an operator calls -/
structure MetI (P : Program) (w : World) (K : PySem.W.Frag) (mg : Str → Option Value) (base : Heap) (k : Nat) (C : Addr) (m : Str) (sp : Sp) : Prop where
  ex : ∃ (f : Addr) (fd : FuncData) (ps : List Str), Cls K C ∧ Meth K C m f ∧ FnOk P w K mg base CX0 k f fd ps sp ∧ Binds K fd ps [] ∧ PySem.W.fnIn K f = true
theorem MetI.mono {P : Program} {w : World} {K : PySem.W.Frag} {mg : Str → Option Value} {base : Heap} {k j : Nat} {C : Addr} {m : Str} {sp : Sp} (c : MetI P w K mg base j C m sp) (h : j ≤ k) : MetI P w K mg base k C m sp := by
  obtain ⟨f, fd, ps, a, b, F, d, e⟩ := c.ex
  exact ⟨f, fd, ps, a, b, F.mono h, d, e⟩
end TL
end
section
set_option Elab.async false
set_option Elab.async false
set_option linter.all false
set_option autoImplicit false
set_option maxRecDepth 100000
set_option maxHeartbeats 4000000
namespace TL
open PySem PySem.Spec L2
end TL
end
section
set_option Elab.async false
set_option Elab.async false
set_option linter.all false
set_option autoImplicit false
set_option maxRecDepth 100000
set_option maxHeartbeats 4000000
namespace TL
open PySem PySem.Spec PyProof.Rows L2
end TL
end
section
set_option Elab.async false
set_option Elab.async false
set_option linter.all false
set_option autoImplicit false
set_option maxRecDepth 100000
set_option maxHeartbeats 4000000
namespace TL
open PySem PySem.Spec L2
section
variable {Γ : Gm} {E : XW} {ms : List Md}
theorem sim_tupOf {p : Bool} {ta : TA} {e : M (List T)} {cs : List RC} (ha : SimA Γ E ms p ta e cs) (hn : NoSlot cs) : SimE Γ E ms p (tCB (rTupOf Γ.K) ta) (tupA e) .fz := by
  intro W τ σ hs Q hF hp
  refine ha W τ σ hs _ hF (Pst.bind1 hp fun W1 ts τ1 g1 hp1 vs hF1 hv => ?_)
  have hl := HasA.now hF1.fr hn.all hv
  cases hf : fTup ts with
  | none => rw [hf] at hp1; exact hp1.elim
  | some ws =>
    rw [hf] at hp1
    have hp2 : Pst Γ E ms W1 σ hs true τ1 (fun W' w τ' => ∀ v, Has Γ W' ms τ' σ hs .fz w v → Q v W'.H) ((immsC ws >>= fun ws => M.pure (.tup ws)) τ1) := hp1
    unfold immsC at hp2
    by_cases hi : imms ws = true
    · rw [if_pos hi] at hp2
      have fh := hF1.fr.fb.trans hF1.fr.bh
      obtain ⟨l, hF2⟩ := hF1.fix
      match ts, hf with
      | [.lst xs], hf =>
        cases hf
        obtain ⟨v, r, rfl, ⟨a, us, rfl, h1, h2⟩, h3⟩ := hl
        cases h3
        refine ⟨a, us, rfl, .inl ⟨h1, fun q hq => ?_⟩⟩
        have hy2 : RepL Γ W1.fix.F W1.fix.F ws us := imms_rep l.f (fix_t hF1.fr) ws hi h2
        have hq2 : W1.fix.H q = none := hq
        obtain ⟨l2, f⟩ := hF2.fr.newF (.tup us) hq2
        exact hp2 _ ⟨l.trans l2, fun _ => ⟨upd_sub hq, rfl⟩⟩ (.ref q) ⟨⟨f, hF1.lt, hF1.lv⟩, q, us, rfl, .inl (.inl upd_same), RepL.mono l2.f ws l2.f hy2⟩
      | [.tup xs], hf =>
        cases hf
        have hit : imms [.tup ws] = true := by show (imms ws && true) = true; rw [hi]; rfl
        have hy2 : RepL Γ W1.fix.F W1.fix.F [.tup ws] vs := imms_rep l.f (fix_t hF1.fr) [.tup ws] hit hl
        obtain ⟨v, r, rfl, ⟨a, us, rfl, h1, h2⟩, h3⟩ := hl
        cases h3
        refine ⟨a, us, rfl, .inr ⟨h1, ?_⟩⟩
        obtain ⟨v', r', e', h5, _⟩ := hy2
        cases e'
        exact hp2 W1.fix ⟨l, fun _ => ⟨Same.refl _, rfl⟩⟩ (.ref a) ⟨hF2, h5⟩
    · rw [if_neg hi] at hp2; exact hp2.elim
end
end TL
end
section
set_option Elab.async false
set_option Elab.async false
set_option linter.all false
set_option autoImplicit false
set_option maxRecDepth 100000
set_option maxHeartbeats 4000000
namespace TL
open PySem PySem.Spec L2
section
variable {Γ : Gm} {E : XW} {ms : List Md}
def rAdd2 (K : PySem.W.Frag) : List V → Hp → VK → Prop := fun vs H Q => match vs with
  | [x, y] => rAddQ K x y H Q
  | _ => False
theorem newS_cat : NewS Γ (rAdd2 Γ.K) fCat := by
  intro F G H ts ws vs Q hF hG hl hf hq
  match ts, hf with
  | [.lst xs, .lst ys], hf =>
    obtain ⟨v, r, rfl, ⟨a, us, rfl, h1, h2⟩, v2, r2, rfl, ⟨a2, us2, rfl, h3, h4⟩, h5⟩ := hl
    cases h5
    have hf' : (if xs.length + ys.length ≤ szL then some (xs ++ ys) else none) = some ws := hf
    split at hf'
    · rename_i hz
      cases hf'
      refine .inr (.inl ⟨a, a2, us, us2, rfl, rfl, sqL_sub hG h1, sqL_sub hG h3, ?_, fun p hp => hq _ ?_ p hp⟩)
      · rw [← (repL_get h2).1, ← (repL_get h4).1, ← szL_eq]; exact hz
      · have app : ∀ {xs : List T} {us : List V}, RepL Γ F G xs us → RepL Γ F G (xs ++ ys) (us ++ us2) := by
          intro xs
          induction xs with
          | nil => intro us h; cases h; exact h4
          | cons x xs ih =>
            intro us h
            obtain ⟨v, r, rfl, h1, h2⟩ := h
            exact ⟨v, _, rfl, h1, ih h2⟩
        exact app h2
    · cases hf'
theorem sim_cat_fz {p q : Bool} {ta tb : TE} {ea eb : M T} (ha : SimE Γ E ms p ta ea .fz) (hb : SimE Γ E ms q tb eb .fz) : SimE Γ E ms (p && (q && true)) (tOp (rAddQ Γ.K) ta tb) (newA fCat (consA ea (consA eb nilA))) (.own 1) :=
  sim_new_fz newS_cat (sim_cons ha (sim_cons hb sim_nil True.intro) True.intro) ⟨rfl, rfl, True.intro⟩
theorem HasV.of {W : Wd} {τ : Tau} {σ : St} {hs : List Slot} {r : RC} {t : T} {v : V} (h : Has Γ W ms τ σ hs r t v) (hst : Stay' r true) : HasV Γ W σ r t v := h.laterV Go.refl h.fr hst
theorem own_lst {W : Wd} {τ : Tau} {σ : St} {hs : List Slot} {xs : List T} {v : V} (h : FrS Γ W ms τ σ (hs ++ [(.own 1, some (.lst xs), some v)])) : ∃ a us, v = .ref a ∧ W.H a = some (.lst us) ∧ RepL Γ W.F W.F xs us := by
  obtain ⟨fps, h1, _, _⟩ := h.fr.ex
  rw [← List.append_assoc] at h1
  obtain ⟨m1, m2, rfl, g1, g2⟩ := pr_split h1
  cases g2 with
  | cons r g2 =>
    obtain ⟨a, us, fp', e, q, _, q2⟩ := (show RepO Γ W.F W.H 1 (.lst xs) v _ from r)
    exact ⟨a, us, e, q, (of_repOL_zero q2).2⟩
theorem repL_rep {F G : Hp} {xs : List T} {us : List V} (h : RepL Γ F G xs us) : ∀ n : Nat, RepL Γ F G (List.replicate n xs).flatten (List.replicate n us).flatten
  | 0 => rfl
  | n + 1 => by
    rw [List.replicate_succ, List.replicate_succ, List.flatten_cons, List.flatten_cons]
    exact repL_app h (repL_rep h n)
theorem sim_rep {p q : Bool} {ta tb : TE} {ea eb : M T} {rb : RC} (ha : SimE Γ E ms p ta ea (.own 1)) (hb : SimE Γ E ms q tb eb rb) : SimE Γ E ms (p && q) (tOp rRep ta tb) (repM ea eb) (.own 1) := by
  intro W τ σ hs Q hF hp
  refine ha W τ σ hs _ hF (Pst.bind hp fun W1 x τ1 g1 hp1 vx hx => ?_)
  have hx' : FrS Γ W1 ms τ1 σ (hs ++ [(.own 1, some x, some vx)]) := hx
  refine hb W1 τ1 σ _ _ hx' (Pst.hs (hs := hs) (fun _ _ h => h.drop) (Pst.bind1 hp1 fun W2 y τ2 g2 hp2 vy hy => ?_))
  cases x with
  | lst xs =>
    cases y with
    | int k =>
      have hp3 : Pst Γ E ms W2 σ hs true τ2 (fun W' w τ' => ∀ v, Has Γ W' ms τ' σ hs (.own 1) w v → Q v W'.H) ((if 0 ≤ k ∧ k ≤ 1000000 ∧ xs.length * k.toNat ≤ szL then M.pure (.lst (List.replicate k.toNat xs).flatten) else M.stuck : M T) τ2) := hp2
      by_cases hc : 0 ≤ k ∧ k ≤ 1000000 ∧ xs.length * k.toNat ≤ szL
      · rw [if_pos hc] at hp3
        obtain ⟨a, us, rfl, e, hr⟩ := own_lst hy.fr
        have hz : us.length * k.toNat ≤ sizeLine := by rw [← (repL_get hr).1, ← szL_eq]; exact hc.2.2
        have hyv : vy = .int k := hy.now
        subst hyv
        have hF2 : FrS Γ W2 ms τ2 σ hs := hy.fr.drop
        refine ⟨a, k, us, rfl, rfl, e, by omega, by omega, hz, fun q hq => ?_⟩
        exact hp3 ⟨W2.F, W2.B, upd W2.H q (.lst _)⟩ ⟨grow_le, fun _ => ⟨upd_sub hq, rfl⟩⟩ (.ref q) ⟨by have := hF2.fr.newL hq (repL_rep hr k.toNat); rwa [List.append_assoc] at this, hF2.lt, hF2.lv⟩
      · rw [if_neg hc] at hp3; exact hp3.elim
    | _ => exact (show False from hp2).elim
  | _ => exact (show False from hp2).elim
end
end TL
end
section
set_option Elab.async false
set_option Elab.async false
set_option linter.all false
set_option autoImplicit false
set_option maxRecDepth 100000
set_option maxHeartbeats 4000000
namespace TL
open PySem PySem.Spec L2
end TL
end
section
set_option Elab.async false
set_option Elab.async false
set_option linter.all false
set_option autoImplicit false
set_option maxRecDepth 100000
set_option maxHeartbeats 4000000
namespace TL
open PySem PySem.Spec L2
end TL
end
section
set_option Elab.async false
set_option Elab.async false
set_option linter.all false
set_option autoImplicit false
set_option maxRecDepth 100000
set_option maxHeartbeats 4000000
namespace TL
open PySem PySem.Spec L2
end TL
end
section
set_option Elab.async false
set_option Elab.async false
set_option linter.all false
set_option autoImplicit false
set_option maxRecDepth 100000
set_option maxHeartbeats 4000000
namespace TL
open PySem PySem.Spec L2
section
variable {Γ : Gm} {E : XW} {ms : List Md}
theorem own_dct {W : Wd} {τ : Tau} {σ : St} {hs : List Slot} {kvs : List (T × T)} {v : V} (h : FrS Γ W ms τ σ (hs ++ [(.own 1, some (.dct kvs), some v)])) : ∃ a es ep, v = .ref a ∧ W.H a = some (DX Γ.w a es ep) ∧ RepD Γ W.F W.F kvs es := by
  obtain ⟨fps, h1, _, _⟩ := h.fr.ex
  rw [← List.append_assoc] at h1
  obtain ⟨m1, m2, rfl, g1, g2⟩ := pr_split h1
  cases g2 with
  | cons r g2 =>
    obtain ⟨a, es, ep, e, q, _, _, q2⟩ := (show RepO Γ W.F W.H 1 (.dct kvs) v _ from r)
    exact ⟨a, es, ep, e, q, q2⟩
theorem Pst.bindF {α β : Type} {W : Wd} {τ : Tau} {σ : St} {hs : List Slot} {p : Bool} {m : M α} {f : α → M β} {ok : Wd → β → Tau → Prop} {ok1 : Wd → α → Tau → Prop} (h : Pst Γ E ms W σ hs false τ ok ((m >>= f) τ))
    (hok : ∀ W1 a τ1, Go p W W1 τ τ1 → Pst Γ E ms W1 σ hs false τ1 ok (f a τ1) → ok1 W1 a τ1) : Pst Γ E ms W σ hs p τ ok1 (m τ) := by
  have h0 : Pst Γ E ms W σ hs false τ (fun W1 a τ1 => Pst Γ E ms W1 σ hs false τ1 ok (f a τ1)) (m τ) := Pst.bind (p := false) (q := false) h fun W1 a τ1 _ hp => hp
  cases hm : m τ with
  | stuck => rw [hm] at h0; exact h0
  | exc x τ1 => rw [hm] at h0; exact fun W' cls d g => h0 W' cls d ⟨g.1, fun z => nomatch z⟩
  | ok a τ1 => rw [hm] at h0; exact fun W1 g => hok W1 a τ1 g (h0 W1 ⟨g.1, fun z => nomatch z⟩)
end
end TL
end
section
set_option Elab.async false
set_option Elab.async false
set_option linter.all false
set_option autoImplicit false
set_option maxRecDepth 100000
set_option maxHeartbeats 4000000
namespace TL
open PySem PySem.Spec L2
end TL
end
section
set_option Elab.async false
set_option Elab.async false
set_option linter.all false
set_option autoImplicit false
set_option maxRecDepth 100000
set_option maxHeartbeats 4000000
namespace TL
open PySem PySem.Spec L2
section
variable {Γ : Gm} {E : XW} {ms ms2 : List Md} {rr : RC}
/-- entered with slots held as ms, left with slots held as ms2 -/
def SimS2 (Γ : Gm) (E : XW) (ms ms2 : List Md) (rr : RC) (t : TS) (s : M Ctl) : Prop := ∀ W τ σ hs D, FrS Γ W ms τ σ hs → PstS Γ E ms2 rr W σ hs D (s τ) → t D σ W.H
theorem SimS.two {t : TS} {s : M Ctl} (h : SimS Γ E ms rr t s) : SimS2 Γ E ms ms rr t s := h
def keptLe : List Md → List Md → Bool
  | [], _ => true
  | m :: a, n :: b => (!m.kept || n.kept) && keptLe a b
  | m :: a, [] => !m.kept && keptLe a []
theorem keptLe_at : ∀ {a b : List Md}, keptLe a b = true → ∀ (i : Nat) (m : Md), a[i]? = some m ∧ m.kept = true → ∃ n, b[i]? = some n ∧ n.kept = true
  | [], _, _, i, m, h => by simp at h
  | m0 :: a, n0 :: b, hk, i, m, h => by
    have hk' : (!m0.kept || n0.kept) = true ∧ keptLe a b = true := by
      have : ((!m0.kept || n0.kept) && keptLe a b) = true := hk
      simpa [Bool.and_eq_true] using this
    cases i with
    | zero =>
      have e : m0 = m := by simpa using h.1
      subst e
      refine ⟨n0, rfl, ?_⟩
      have := hk'.1
      rw [h.2] at this
      simpa using this
    | succ i => exact keptLe_at hk'.2 i m (by simpa using h)
  | m0 :: a, [], hk, i, m, h => by
    have hk' : (!m0.kept) = true ∧ keptLe a [] = true := by
      have : ((!m0.kept) && keptLe a []) = true := hk
      simpa [Bool.and_eq_true] using this
    cases i with
    | zero =>
      have e : m0 = m := by simpa using h.1
      subst e
      rw [h.2] at hk'
      exact absurd hk'.1 (by decide)
    | succ i =>
      obtain ⟨n, hn, _⟩ := keptLe_at (a := a) (b := []) hk'.2 i m (by simpa using h)
      simp at hn
theorem Nx.kept {W W' : Wd} {σ σ' : St} (h : Nx ms W σ W' σ') (hk : keptLe ms2 ms = true) : Nx ms2 W σ W' σ' := ⟨h.le, fun i m hm => by
  obtain ⟨n, hn⟩ := keptLe_at hk i m hm
  exact h.kl i n hn⟩
end
end TL
end
section
set_option Elab.async false
set_option Elab.async false
set_option linter.all false
set_option autoImplicit false
set_option maxRecDepth 100000
set_option maxHeartbeats 4000000
namespace TL
open PySem PySem.Spec L2
end TL
end
section
set_option Elab.async false
set_option Elab.async false
set_option linter.all false
set_option autoImplicit false
set_option maxRecDepth 100000
set_option maxHeartbeats 4000000
namespace TL
open PySem PySem.Spec L2
end TL
end
section
set_option Elab.async false
set_option Elab.async false
set_option linter.all false
set_option autoImplicit false
set_option maxRecDepth 100000
set_option maxHeartbeats 4000000
namespace TL
open PySem PySem.Spec L2
end TL
namespace TL
open PySem PySem.Spec L2
end TL
end
section
set_option Elab.async false
set_option Elab.async false
set_option linter.all false
set_option autoImplicit false
set_option maxRecDepth 100000
set_option maxHeartbeats 4000000
namespace TL
open PySem PySem.Spec L2
section
variable {Γ : Gm} {E : XW} {ms : List Md}
theorem Pst.later {W W' : Wd} {σ : St} {hs : List Slot} {τ τ' : Tau} {ok : Wd → T → Tau → Prop} {r : RE T} (l : W.Le W') (h : Pst Γ E ms W σ hs false τ ok r) : Pst Γ E ms W' σ hs false τ' ok r := by
  cases r with
  | stuck => exact h
  | exc x τ'' => exact fun W'' cls d g => h W'' cls d ⟨l.trans g.1, fun z => nomatch z⟩
  | ok x τ'' => exact fun W'' g => h W'' ⟨l.trans g.1, fun z => nomatch z⟩
end
end TL
end
section
set_option Elab.async false
set_option Elab.async false
set_option linter.all false
set_option autoImplicit false
set_option maxRecDepth 100000
set_option maxHeartbeats 4000000
namespace TL
open PySem PySem.Spec L2
end TL
end
section
set_option Elab.async false
set_option Elab.async false
set_option linter.all false
set_option autoImplicit false
set_option maxRecDepth 100000
set_option maxHeartbeats 4000000
namespace TL
open PySem PySem.Spec L2
end TL
end
section
set_option Elab.async false
set_option Elab.async false
set_option linter.all false
set_option autoImplicit false
set_option maxRecDepth 100000
set_option maxHeartbeats 4000000
namespace TL
open PySem PySem.Spec L2
end TL
end
section
set_option Elab.async false
set_option Elab.async false
set_option linter.all false
set_option autoImplicit false
set_option maxRecDepth 100000
set_option maxHeartbeats 4000000
namespace TL
open PySem PySem.Spec L2
end TL
end
section
set_option Elab.async false
set_option Elab.async false
set_option linter.all false
set_option autoImplicit false
set_option maxRecDepth 100000
set_option maxHeartbeats 4000000
namespace TL
open PySem PySem.Spec L2
end TL
end
section
set_option Elab.async false
set_option Elab.async false
set_option linter.all false
set_option autoImplicit false
set_option maxRecDepth 100000
set_option maxHeartbeats 4000000
namespace TL
open PySem PySem.Spec L2
end TL
end
section
set_option Elab.async false
set_option Elab.async false
set_option linter.all false
set_option autoImplicit false
set_option maxRecDepth 100000
set_option maxHeartbeats 4000000
namespace TL
open PySem PySem.Spec L2
end TL
end
section
set_option Elab.async false
set_option Elab.async false
set_option linter.all false
set_option autoImplicit false
set_option maxRecDepth 100000
set_option maxHeartbeats 4000000
namespace TL
open PySem PySem.Spec L2
end TL
end
section
set_option Elab.async false
set_option Elab.async false
set_option linter.all false
set_option autoImplicit false
set_option maxRecDepth 100000
set_option maxHeartbeats 4000000
namespace TL
open PySem PySem.Spec L2
end TL
end
section
set_option Elab.async false
set_option Elab.async false
set_option linter.all false
set_option autoImplicit false
set_option maxRecDepth 100000
set_option maxHeartbeats 4000000
namespace TL
open PySem PySem.Spec L2
end TL
end
section
set_option Elab.async false
set_option Elab.async false
set_option linter.all false
set_option autoImplicit false
set_option maxRecDepth 100000
set_option maxHeartbeats 4000000
namespace TL
open PySem PySem.Spec L2
end TL
end
section
set_option Elab.async false
set_option Elab.async false
set_option linter.all false
set_option autoImplicit false
set_option maxRecDepth 100000
set_option maxHeartbeats 4000000
namespace TL
open PySem PySem.Spec L2
end TL
end
section
set_option Elab.async false
set_option Elab.async false
set_option linter.all false
set_option autoImplicit false
set_option maxRecDepth 100000
set_option maxHeartbeats 4000000
namespace TL
open PySem PySem.Spec L2
end TL
end
section
set_option Elab.async false
set_option Elab.async false
set_option linter.all false
set_option autoImplicit false
set_option maxRecDepth 100000
set_option maxHeartbeats 4000000
namespace TL
open PySem PySem.Spec L2
end TL
end
section
set_option Elab.async false
set_option Elab.async false
set_option linter.all false
set_option autoImplicit false
set_option maxRecDepth 100000
set_option maxHeartbeats 4000000
namespace TL
open PySem PySem.Spec L2
end TL
end
section
set_option Elab.async false
set_option Elab.async false
set_option linter.all false
set_option autoImplicit false
set_option maxRecDepth 100000
set_option maxHeartbeats 4000000
namespace TL
open PySem PySem.Spec L2
def rDispT (Γ : Gm) (p : Addr) (Q : VK) : List (V × V) → Hp → Prop := fun ps H2 => ∃ x y, ps = [(x, y)] ∧ ∃ ep2 ks, Asks Γ H2 p [] ep2 (.tup ks) x ∧ ∀ ep', Q (.ref p) (upd H2 p (DX Γ.w p [(.tup ks, x, y)] ep'))
def tDispT (Γ : Gm) (tk tv : TE) : TE := fun σ H Q => ∀ p ep, H p = none → tPairs [(tk, tv)] σ (upd H p (DX Γ.w p [] ep)) (rDispT Γ p Q)
section
variable {X : Cx} {Γ : Gm}
theorem dict_oneH {prog : Program} {w : World} {A : Around} {E : Value → Shared → Prop} {s : Shared} {K : Type} [DecidableEq K] {knd : HeapKind prog w K} {k v : Expr} {env : Env} {pos : Pos} {Q : Value → Shared → Prop} (hu : knd.room A)
    (h : wpAny (model prog w) A (evalPairs (pairTrees [some k] [v] env pos)) (fun vs s₁ => ∃ ps, CarriesH knd s₁.heap vs ps ∧ s₁.heap.DictOfH knd s.heap.objs.size [] ∧
      ∀ h' tk, h'.DictOfH knd s.heap.objs.size (storedAllH [] ps) → Heap.SameBut s.heap.objs.size s₁.heap h' → Q (.ref s.heap.objs.size) { s₁ with heap := h', toks := tk }) E
      { s with heap := s.heap.push { cls := .type "dict", data := .dict #[] } }) :
    wpAny (model prog w) A (eval (.Dict [some k] [v] pos) env) Q E s := by
  have hn := pairTrees_length [some k] [v] env pos rfl rfl
  rw [arm_eval_Dict, zip_pairTrees [some k] [v] env pos rfl rfl, dictDisplay_pairs (pairTrees [some k] [v] env pos) (by intro e; rw [e] at hn; cases hn) (by rw [hn]; show 1 < 17; omega)]
  exact wpAny_bind (wpAny_standAt (wpAny_bind (wpAny_subDictH (knd := knd) (Q := fun d s' => wpAny (model prog w) A (pure (Value.ref d)) Q E s') hu (by rw [hn]; show 1 ≤ 15; omega)
    (wpAny_mono h (fun vs s₁ h₁ => by obtain ⟨ps, hc, hm, hq⟩ := h₁; exact ⟨ps, hc, hm, fun h' tk a b => wpAny_pure (hq h' tk a b)⟩) fun _ _ e => e))))
theorem pe_dispT {pos : Pos} {k v : Expr} {tk tv : TE} (hu : X.A.units + 9 < cLine) (hK : Γ.K = X.K) (hw : Γ.w = X.w) (hk : PE X k tk) (hv : PE X v tv) : PE X (.Dict [some k] [v] pos) (tDispT Γ tk tv) := by
  refine ⟨fun pins s σ H Q I q => ?_⟩
  have hn := I.hok.fresh (Nat.le_refl s.heap.objs.size)
  have I1 : Inv X pins σ (upd H s.heap.objs.size (DX Γ.w s.heap.objs.size [] 0)) { s with heap := s.heap.push { cls := .type "dict", data := .dict #[] } } := by
    refine I.laid (a := s.heap.objs.size) (o := DX Γ.w s.heap.objs.size [] 0) (t' := s.toks) (fun _ _ q => Heap.get?_push_of_some _ q) (Nat.le_refl _) ?_
    rw [hw]
    exact dx_ok (beq_eq_false_iff_ne.mpr (Nat.ne_of_gt I.big)) (Nat.zero_le _) (Heap.get?_push_size _ rfl) ⟨rfl, rfl, rfl⟩ rfl .nil
  have hrun := (pps_cons (pos := pos) hk hv pps_nil).run pins _ σ _ _ I1 (q s.heap.objs.size 0 hn)
  · refine dict_oneH (knd := nestedKind X.prog X.w) (by show X.A.units + 8 < cLine; omega) (thn hrun fun ws s2 ⟨ps, H2, I2, rel, x, y, eps, ep2, ks, ask, q2⟩ => ?_)
    subst eps
    cases rel with
    | @cons _ b _ bs r1 r2 =>
      cases r2
      obtain ⟨b1, b2⟩ := b
      obtain ⟨ra, rb⟩ := r1
      obtain ⟨hd, _, _⟩ := dx_of I2 ask.at_
      have mu : Mut (H2 s.heap.objs.size) := by rw [ask.at_]; exact True.intro
      rcases ask.two I2 hK hw with ⟨ks', c, xs, ek, ex, is, dd, rel⟩ | ⟨x', vs, ek, _⟩
      · cases ek
        subst ex
        cases rel
        have e1 : b1 = .ref c := ra
        subst e1
        refine ⟨[(.tup ks, c, b2)], ⟨rfl, rfl, is, True.intro⟩, dd, fun h' tk dd' hs => ?_⟩
        obtain ⟨o, raw, ep', ho, h2, h3, h4, _, _⟩ := dd'
        refine ⟨.ref s.heap.objs.size, _, d_write I2 mu hs ⟨o, ho⟩ ?_, rfl, q2 ep'⟩
        rw [hw]
        refine dx_ok hd (by show 1 ≤ sizeLine; decide) ho h2 h3 ?_
        rw [h4]
        exact relT_raw (.cons ⟨rfl, rfl, rb⟩ .nil)
      · cases ek
end
end TL
end
section
set_option Elab.async false
set_option Elab.async false
set_option linter.all false
set_option autoImplicit false
set_option maxRecDepth 100000
set_option maxHeartbeats 4000000
namespace TL
open PySem PySem.Spec L2
section
variable {Γ : Gm} {E : XW} {ms : List Md}
theorem sim_dispT {p q : Bool} {tk tv : TE} {ek ev : M T} (hk : SimE Γ E ms p tk ek .fz) (hv : SimE Γ E ms q tv ev .fz) : SimE Γ E ms false (tDispT Γ tk tv) (dispT ek ev) (.own 1) := by
  intro W τ σ hs Q hF hp a ep ha
  have fn := hF.fr.new (H' := upd W.H a (DX Γ.w a [] ep)) (s := (.own 1, some (.dct []), some (.ref a))) (fp := [a]) (upd_sub ha) ⟨a, [], ep, rfl, upd_same, by simp, rfl, rfl⟩ (by simp) (fun b hb => by rw [List.mem_singleton.mp hb]; exact ha)
  have hF0 : FrS Γ ⟨W.F, W.B, upd W.H a (DX Γ.w a [] ep)⟩ ms τ σ (hs ++ [(.own 1, some (.dct []), some (.ref a))]) := ⟨by rw [← List.append_assoc]; exact fn, hF.lt, hF.lv⟩
  have l0 : W.Le ⟨W.F, W.B, upd W.H a (DX Γ.w a [] ep)⟩ := grow_le
  have hp0 : Pst Γ E ms ⟨W.F, W.B, upd W.H a (DX Γ.w a [] ep)⟩ σ hs false τ (fun W' w τ' => ∀ v, Has Γ W' ms τ' σ hs (.own 1) w v → Q v W'.H) (dispT ek ev τ) := by
    cases hr : dispT ek ev τ with
    | stuck => rw [hr] at hp; exact hp
    | exc x τ' =>
      rw [hr] at hp
      exact fun W' cls d g => hp W' cls d ⟨l0.trans g.1, fun z => nomatch z⟩
    | ok w τ' =>
      rw [hr] at hp
      exact fun W' g => hp W' ⟨l0.trans g.1, fun z => nomatch z⟩
  show tk σ _ _
  refine hk _ τ σ _ _ hF0 (Pst.hs (hs := hs) (fun _ _ h => h.drop) (Pst.bindF hp0 fun W1 k τ1 g1 hp1 vk h1 => ?_))
  refine hv W1 τ1 σ _ _ h1.fr (Pst.hs (hs := hs) (fun _ _ h => h.drop) (Pst.bindF hp1 fun W2 x τ2 g2 hp2 vx h2 => ?_))
  have h1' := h1.later g2 h2.fr (r := .fz) True.intro
  cases k with
  | tup xs =>
    have hp3 : Pst Γ E ms W2 σ hs false τ2 (fun W' w τ' => ∀ v, Has Γ W' ms τ' σ hs (.own 1) w v → Q v W'.H) ((if askOk [] (.tup xs) = true then M.pure (.dct [(.tup xs, x)]) else M.stuck : M T) τ2) := hp2
    by_cases hao : askOk [] (.tup xs) = true
    · rw [if_pos hao] at hp3
      obtain ⟨b, es, ep2, eb, e1, e2⟩ := own_dct h2.fr
      cases eb
      have e2' : es = [] := e2
      subst e2'
      obtain ⟨nk, ask, hkey⟩ := asks_at (Γ := Γ) (F := W2.F) (kvs := []) e1 (by simp) (rfl : RepD Γ W2.F W2.H [] []) h1'.now hao
      obtain ⟨ks, rfl⟩ : ∃ ks, nk = .tup ks := by
        have : (keysOf xs).map NestedKey.tup = some nk := hkey
        obtain ⟨ks, _, e⟩ := Option.map_eq_some_iff.mp this
        exact ⟨ks, e.symm⟩
      refine ⟨vk, vx, rfl, ep2, ks, ask, fun ep' => ?_⟩
      have hsl : (sl ms τ2 σ ++ (hs ++ [(Md.own 1, some (T.dct []), some (V.ref a))]))[(sl ms τ2 σ ++ hs).length]? = some (Md.own 1, some (T.dct []), some (V.ref a)) := by
        rw [← List.append_assoc, List.getElem?_append_right (Nat.le_refl _), Nat.sub_self]; rfl
      obtain ⟨fp, hok, hnd, hB, ch⟩ := h2.fr.fr.change hsl
      obtain ⟨b, es', ep3, eb, e3, _, efp, _⟩ := (show RepO Γ W2.F W2.H 1 (.dct []) (.ref a) fp from hok)
      cases eb
      subst efp
      have fin := ch (upd W2.H a (DX Γ.w a [(.tup ks, vk, vx)] ep')) (Md.own 1, some (T.dct [(.tup xs, x)]), some (V.ref a)) [a] (fun c o hc e => by rw [upd_ne (by intro h; exact hc (by simp [h]))]; exact e)
        ⟨a, _, ep', rfl, upd_same, by simp, rfl, ⟨.tup ks, vk, vx, [], rfl, hkey, h1'.2, h2.2, rfl⟩⟩ (by simp) (fun c hc => .inl hc)
      have hset : (sl ms τ2 σ ++ (hs ++ [(Md.own 1, some (T.dct []), some (V.ref a))])).set (sl ms τ2 σ ++ hs).length (Md.own 1, some (T.dct [(.tup xs, x)]), some (V.ref a)) = sl ms τ2 σ ++ (hs ++ [(Md.own 1, some (T.dct [(.tup xs, x)]), some (V.ref a))]) := by
        rw [← List.append_assoc, List.set_append_right _ _ (Nat.le_refl _), Nat.sub_self, ← List.append_assoc]; rfl
      rw [hset] at fin
      exact hp3 ⟨W2.F, W2.B, upd W2.H a (DX Γ.w a [(.tup ks, vk, vx)] ep')⟩ ⟨grow_le, fun z => nomatch z⟩ (.ref a) ⟨fin, h2.fr.lt, h2.fr.lv⟩
    · rw [if_neg hao] at hp3; exact hp3.elim
  | _ => exact (show False from hp2).elim
end
end TL
end
section
set_option Elab.async false
set_option Elab.async false
set_option linter.all false
set_option autoImplicit false
set_option maxRecDepth 100000
set_option maxHeartbeats 4000000
namespace TL
open PySem PySem.Spec L2
section
variable {Γ : Gm} {E : XW} {ms : List Md}
theorem sim_sl_ff {p q q' : Bool} {te : TE} {tl th : TO} {e : M T} {el eh : M (Option Int)} (h : SimE Γ E ms p te e .fz) (h1 : SimO Γ E ms q tl el) (h2 : SimO Γ E ms q' th eh) : SimE Γ E ms (p && (q && q')) (tSl (rSlQ Γ.K) te tl th) (cutN e el eh) .fz := by
  intro W τ σ hs Q hF hp
  refine h W τ σ hs _ hF (Pst.bind hp fun W1 x τ1 g1 hp1 v hv => ?_)
  refine h1 W1 τ1 σ hs _ hv.fr (Pst.bind hp1 fun W2 lo τ2 g2 hp2 hF2 => ?_)
  refine h2 W2 τ2 σ hs _ hF2 (Pst.bind1 hp2 fun W3 hi τ3 g3 hp3 hF3 => ?_)
  have hv3 : Rep Γ W3.F W3.F x v := (hv.later (g2.trans g3) hF3 (show Stay .fz (q && q') from True.intro)).2
  have fh := hF3.fr.fb.trans hF3.fr.bh
  cases x with
  | lst xs =>
    obtain ⟨a, us, rfl, k1, k2⟩ := hv3
    refine .inl ⟨a, us, rfl, sqL_sub fh k1, fun q hq => ?_⟩
    obtain ⟨l, f⟩ := hF3.fr.newF (.lst (cutV us lo hi)) hq
    exact hp3 _ ⟨l, fun _ => ⟨upd_sub hq, rfl⟩⟩ (.ref q) ⟨⟨f, hF3.lt, hF3.lv⟩, q, cutV us lo hi, rfl, .inl (.inl upd_same), RepL.mono l.f _ l.f (cut_rep k2 lo hi)⟩
  | tup xs =>
    obtain ⟨a, us, rfl, k1, k2⟩ := hv3
    refine .inr ⟨a, us, rfl, sqT_sub fh k1, fun hw => ?_, fun _ q hq => ?_⟩
    · have ec : cutV us lo hi = us := by unfold cutV; rw [hw.1, hw.2]; simp
      have k3 := cut_rep k2 lo hi
      rw [ec] at k3
      exact hp3 W3 Go.refl _ ⟨hF3, a, us, rfl, k1, k3⟩
    · obtain ⟨l, f⟩ := hF3.fr.newF (.tup (cutV us lo hi)) hq
      exact hp3 _ ⟨l, fun _ => ⟨upd_sub hq, rfl⟩⟩ (.ref q) ⟨⟨f, hF3.lt, hF3.lv⟩, q, cutV us lo hi, rfl, .inl (.inl upd_same), RepL.mono l.f _ l.f (cut_rep k2 lo hi)⟩
  | _ => exact hp3.elim
theorem sim_sl_sh {p q q' : Bool} {te : TE} {tl th : TO} {e : M T} {el eh : M (Option Int)} (h : SimE Γ E ms p te e .sh) (h1 : SimO Γ E ms q tl el) (h2 : SimO Γ E ms q' th eh) : SimE Γ E ms (p && (q && q')) (tSl (rSlQ Γ.K) te tl th) (cutN e el eh) .sh := by
  intro W τ σ hs Q hF hp
  refine h W τ σ hs _ hF (Pst.bind hp fun W1 x τ1 g1 hp1 v hv => ?_)
  refine h1 W1 τ1 σ hs _ hv.fr (Pst.bind hp1 fun W2 lo τ2 g2 hp2 hF2 => ?_)
  refine h2 W2 τ2 σ hs _ hF2 (Pst.bind1 hp2 fun W3 hi τ3 g3 hp3 hF3 => ?_)
  have hv3 : Rep Γ W3.F W3.B x v := (hv.later (g2.trans g3) hF3 (show Stay .sh (q && q') from True.intro)).2
  have fh := hF3.fr.bh
  cases x with
  | lst xs =>
    obtain ⟨a, us, rfl, k1, k2⟩ := hv3
    refine .inl ⟨a, us, rfl, sqL_sub fh k1, fun q hq => ?_⟩
    obtain ⟨l, f⟩ := hF3.fr.newB (.lst (cutV us lo hi)) hq
    exact hp3 _ ⟨l, fun _ => ⟨upd_sub hq, rfl⟩⟩ (.ref q) ⟨⟨f, hF3.lt, hF3.lv⟩, q, cutV us lo hi, rfl, .inl (.inl upd_same), RepL.mono l.f _ l.b (cut_rep k2 lo hi)⟩
  | tup xs =>
    obtain ⟨a, us, rfl, k1, k2⟩ := hv3
    refine .inr ⟨a, us, rfl, sqT_sub fh k1, fun hw => ?_, fun _ q hq => ?_⟩
    · have ec : cutV us lo hi = us := by unfold cutV; rw [hw.1, hw.2]; simp
      have k3 := cut_rep k2 lo hi
      rw [ec] at k3
      exact hp3 W3 Go.refl _ ⟨hF3, a, us, rfl, k1, k3⟩
    · obtain ⟨l, f⟩ := hF3.fr.newB (.tup (cutV us lo hi)) hq
      exact hp3 _ ⟨l, fun _ => ⟨upd_sub hq, rfl⟩⟩ (.ref q) ⟨⟨f, hF3.lt, hF3.lv⟩, q, cutV us lo hi, rfl, .inl (.inl upd_same), RepL.mono l.f _ l.b (cut_rep k2 lo hi)⟩
  | _ => exact hp3.elim
theorem sim_tupFz {p : Bool} {ta : TA} {e : M (List T)} {cs : List RC} (ha : SimA Γ E ms p ta e cs) (hc : All .fz cs) : SimE Γ E ms p (tCB (rTupOf Γ.K) ta) (tupF e) .fz := by
  intro W τ σ hs Q hF hp
  refine ha W τ σ hs _ hF (Pst.bind1 hp fun W1 ts τ1 g1 hp1 vs hF1 hv => ?_)
  have hl := hasA_fz hc hv
  have fh := hF1.fr.fb.trans hF1.fr.bh
  cases hf : fTup ts with
  | none => rw [hf] at hp1; exact hp1.elim
  | some ws =>
    rw [hf] at hp1
    have hp2 : Pst Γ E ms W1 σ hs true τ1 (fun W' w τ' => ∀ v, Has Γ W' ms τ' σ hs .fz w v → Q v W'.H) (.ok (.tup ws) τ1) := hp1
    match ts, hf with
    | [.lst xs], hf =>
      cases hf
      obtain ⟨v, r, rfl, ⟨a, us, rfl, h1, h2⟩, h3⟩ := hl
      cases h3
      refine ⟨a, us, rfl, .inl ⟨sqL_sub fh h1, fun q hq => ?_⟩⟩
      obtain ⟨l2, f⟩ := hF1.fr.newF (.tup us) hq
      exact hp2 _ ⟨l2, fun _ => ⟨upd_sub hq, rfl⟩⟩ (.ref q) ⟨⟨f, hF1.lt, hF1.lv⟩, q, us, rfl, .inl (.inl upd_same), RepL.mono l2.f ws l2.f h2⟩
    | [.tup xs], hf =>
      cases hf
      obtain ⟨v, r, rfl, ⟨a, us, rfl, h1, h2⟩, h3⟩ := hl
      cases h3
      refine ⟨a, us, rfl, .inr ⟨sqT_sub fh h1, ?_⟩⟩
      exact hp2 W1 Go.refl (.ref a) ⟨hF1, a, us, rfl, h1, h2⟩
end
end TL
end
section
set_option Elab.async false
set_option Elab.async false
set_option linter.all false
set_option autoImplicit false
set_option maxRecDepth 100000
set_option maxHeartbeats 4000000
namespace TL
open PySem PySem.Spec PyProof.Rows L2 NdefX
section
variable {P : Program} {w : World} {K : PySem.W.Frag} {mg : Str → Option Value} {base : Heap}
theorem ev_super {p0 p1 p2 p3 p4 : Pos} {txt : Str} {j : Nat} {env : Env} (hl : (p2.endLine == p4.line) = true) :
    eval (.Call (.Attribute (.Call (.Name "super" p0) [] [] p1) "__init__" p2) [.Constant (.str txt) j p3] [] p4) env = (do
      let ov ← attributeBase (.Call (.Name "super" p0) [] [] p1) "__init__" env (eval (.Call (.Name "super" p0) [] [] p1) env)
      standAt p2.atName
      let (g, first) ← holding [ov] (getMethod ov "__init__" (do return (← importBound (.Call (.Name "super" p0) [] [] p1) env).getD true))
      callWith p4 g first (backTo p4 (starEach [.Constant (.str txt) j p3] env)) []) := by
  have h2 : ∀ o, methodCallPos true o env p2 p4 = pure p4 := fun o => by
    unfold methodCallPos
    rw [hl]
    rfl
  have h3 : ∀ ov, methodCall (.Call (.Name "super" p0) [] [] p1) "__init__" p2 p4 env ov 1 (backTo p4 (starEach [.Constant (.str txt) j p3] env)) [] = (do
      let (g, first) ← holding [ov] (getMethod ov "__init__" (do return (← importBound (.Call (.Name "super" p0) [] [] p1) env).getD true))
      callWith p4 g first (backTo p4 (starEach [.Constant (.str txt) j p3] env)) []) := fun ov => by
    unfold methodCall
    have h4 : methodCallForm 1 (backTo p4 (starEach [.Constant (.str txt) j p3] env)) [] = true := rfl
    rw [h4, h2]
    rfl
  show (do
    let ov ← attributeBase (.Call (.Name "super" p0) [] [] p1) "__init__" env (eval (.Call (.Name "super" p0) [] [] p1) env)
    standAt p2.atName
    methodCall (.Call (.Name "super" p0) [] [] p1) "__init__" p2 p4 env ov 1 (backTo p4 (starEach [.Constant (.str txt) j p3] env)) []) = _
  simp only [h3]
/-- the code of such an __init__ (at f, in the class at D) -/
structure SupI (P : Program) (K : PySem.W.Frag) (mg : Str → Option Value) (F : NF) (f D : Addr) (fd : FuncData) (N ps : List Str) (rest : List Stmt) : Prop where
  fn : ∃ oc od osl doc pm ctv, K.lookup f = some ⟨oc, od, .func (F.fd doc pm ctv), osl⟩ ∧ fd = F.fd doc pm ctv
  cd : PySem.W.codeIn K (.ref F.c) F.qual = true
  sc : NScope N ps ["__class__"] F.scope
  bd : ∃ p0 p1 p2 p3 p4 p5 txt j, F.body = .Expr (.Call (.Attribute (.Call (.Name "super" p0) [] [] p1) "__init__" p2) [.Constant (.str txt) j p3] [] p4) p5 :: rest ∧ (p2.endLine == p4.line) = true
  hd : ∃ ar, (F.params.posonlyargs ++ F.params.args).head? = some ar ∧ ps.head? = some ar.arg
  co : ∃ a b c vs file tf, K.lookup F.c = some ⟨a, b, .fields vs, c⟩ ∧ vs[2]? = some (.str file tf) ∧ ((P.main.file : Str) == file) = true
  top : (P.main.scope.names.lookup ("super" : Str)).isSome = false
  ce : ∃ cc a b c, F.cl = [(("__class__" : Str), cc)] ∧ K.lookup cc = some ⟨a, b, .cell (some (.ref D)), c⟩
  cls : OexC K D
  mro : PySem.W.mroIn K D (.ref D) = some true
  gs : F.scope.names.lookup ("super" : Str) = some .globalImplicit
  mgS : mg "super" = none
  any : PySem.W.nsIn K cStatics "thirdparty.any" = some none
  sup : PySem.W.ks_superIn K D D "__init__" = some (some (.builtin "ValueError.__init__"))
  ve : PySem.W.subIn K (.ref D) (.type "ValueError") = some true
variable {F : NF} {f D : Addr} {fd : FuncData} {N ps : List Str} {rest : List Stmt} {k : Nat} {sp : Sp}
theorem wrapped {X : Cx} {pins : List (Addr × Obj)} {σ : L2.St} {H : Hp} {s : Shared} {E : Value → Shared → Prop} {a u C : Addr} {us : List Value} {Q : Value → Shared → Prop} (T : OexC X.K C) (I : Inv X pins σ H s) (e : H a = some (exo a C none)) (hu : s.heap.get? u = some (PySem.W.kxs_mw "ValueError.__init__" a)) (hl : us.length ≤ sizeLine)
    (h : ∀ s', Inv X pins σ H s' → Q .none s') : wpAny (model X.prog X.w) X.A (call (.ref u) us) Q E s := by
  obtain ⟨nm, q, N, bs, bm, sn, sub, ab, col, dd, k0, k1, k2, k3, k5, hC, hbm⟩ := T.cls
  obtain ⟨t1, ho⟩ := exo_at I.hok e
  obtain ⟨hp, g, d, t, os⟩ := s
  refine wpAny_call (codeAny_of_tree ?_)
  show wpAny _ _ (callAny (.ref u) ⟨us, []⟩) _ _ _
  unfold callAny
  refine wpAny_bind (wpAny_load hu ?_)
  dsimp only
  have q1 : (Value.type "method-wrapper" == Value.type "method" || Value.type "method-wrapper" == Value.type "builtin_function_or_method" || Value.type "method-wrapper" == Value.type "method-wrapper") = true := by decide
  simp only [PySem.W.kxs_mw, q1, if_true]
  refine PySem.W.KFB.if_so (by decide) ?_
  refine wpAny_bind (PySem.W.check_bound_init PySem.F.excBase_ValueError.toExcCallFacts (I.kIn _ _ hC) ho rfl ?_)
  refine wpAny_bind (wpAny_pure (wpAny_pure ?_))
  refine ⟨plainId_quiet PySem.F.excBase_ValueError.init.plain _, ?_⟩
  refine codeAny_builtin PySem.F.excBase_ValueError.initEntry ?_
  refine PySem.W.exc_init_tree (cls := .ref C) (t0 := t1) (dv := none) (c2 := .none) (c3 := .none) (b4 := .bool false) ho hl ?_
  intro h' k hx htup
  have J := I.write (t' := t) (x := a) (e := a) (o := exo a C none) (by rw [e]; exact True.intro) (.inl rfl) k ⟨_, hx⟩ (exo_ok hx)
  have eu : upd H a (exo a C none) = H := by
    funext b
    by_cases hb : b = a
    · rw [hb, upd_same, e]
    · rw [upd_ne hb]
  rw [eu] at J
  exact h _ J
/-- THE RULE: such an __init__ by the rest of its body -/
theorem fn_sup (S : SupI P K mg F f D fd N ps rest) (len : ∀ vs H Q E, sp vs H Q E → vs.length = ps.length)
    (hrun : ∀ (A : Around) (outer : List Env) (s : Shared) (H : Hp) (vs : List V) (Q : VK) (E : XK), Room k (A.deeper (envF F f s.heap.objs.size)) → sp vs H Q E → (∃ a, vs.head? = some (.ref a) ∧ H a = some (exo a D none)) ∧
      ∃ t, PSs (ncx C8.CX0 P w K mg base N F f A outer s H E).nox rest t ∧ t { nx := fun _ H' => Q .non H', rt := Q } (startF N vs [none]) H) :
    FnOk P w K mg base C8.CX0 (k + 1) f fd ps sp := by
  obtain ⟨oc, od, osl, doc, pm, ctv, lk, rfl⟩ := S.fn
  refine ⟨len, fun A outer s H args us vs Q E hr e0 hb r hsp => ?_⟩
  have hl := len _ _ _ _ hsp
  have KX : K.In s.heap := e0.mod.kin.keeps fun b o e => (e0.bs b o e).1
  have lim : s.heap.NoLimit := e0.mod.nolimit.keeps fun b o e => (e0.bs b o e).1
  obtain ⟨cc, ca, cb, c', hcl, hcc⟩ := S.ce
  have CA : CellsAt F.cl ["__class__"] [none] s.heap H := by
    rw [hcl]
    refine ⟨rfl, fun y c e => ?_, fun x y c e1 e2 => ?_, fun i y hi => ?_⟩
    · have : c = cc := by
        rw [List.lookup_cons] at e
        split at e
        · exact (Option.some.inj e).symm
        · cases e
      subst this
      exact ⟨(e0.bs _ _ (e0.mod.kin _ _ hcc)).2, _, ⟨_, KX _ _ hcc, rfl⟩⟩
    · rw [List.lookup_cons] at e1 e2
      split at e1
      · rename_i h1
        split at e2
        · rename_i h2
          rw [beq_iff_eq] at h1 h2
          rw [h1, h2]
        · cases e2
      · cases e1
    · cases i with
      | succ i => simp at hi
      | zero =>
        have e : y = "__class__" := by simpa using hi.symm
        subst e
        exact ⟨cc, by simp [List.lookup], fun v hv => by simp at hv⟩
  refine codeAny_call_function hr.depth (KX _ _ lk) rfl S.sc.co S.sc.gen rfl (PySem.W.codeRec_of KX S.cd) (hb _ _ _ _ ?_)
  refine wpAny_newFunctionEnv S.sc.nocell (fun ⟨n, _⟩ hy => S.sc.par n (List.of_mem_zip hy).1) (fun h₁ hns hsb => ⟨lim.fresh _ hsb, ?_⟩) S.sc.kind
  show codeAny _ _ (.func F.body (envF F f s.heap.objs.size)) _ _
  have kp : ∀ b o, s.heap.get? b = some o → h₁.get? b = some o := fun b o e => hsb.extBut b o (Nat.ne_of_lt (Heap.lt_size e)) (Heap.get?_push_of_some _ e)
  obtain ⟨⟨a, hva, ha⟩, t, ht, hq⟩ := hrun A outer s H vs Q E (hr.deeper _) hsp
  have I : Inv (ncx C8.CX0 P w K mg base N F f A outer s H E) [] (startF N vs [none]) H { s with heap := h₁, toks := s.toks + (ps.zip us).length } := inv_startN S.sc hr.hd e0 hl r CA hns kp
  obtain ⟨p0, p1, p2, p3, p4, p5, txt, j, hbd, hpl⟩ := S.bd
  obtain ⟨ar, har, hps⟩ := S.hd
  obtain ⟨c1, c2, c3, cvs, file, tf, hcode, hvs, hfile⟩ := S.co
  rw [hbd]
  refine ks_codeAny_funcAt (ks_wpAt_execs_cons (ks_wpAt_Expr_any (ks_wpAt_MethodCall ?_ (ev_super hpl)) (by have := S.sc.kind; simp [interactive, this]) rfl))
  obtain ⟨oD, hD1, hD2⟩ : ∃ oD : Obj, ∃ cdD, h₁.get? D = some oD ∧ oD.data = .cls cdD := by
    obtain ⟨nm, q, N', bs, bm, sn, sub, ab, col, dd, k0, k1, k2, k3, k5, hC, _⟩ := S.cls.cls
    exact ⟨_, _, kp _ _ (KX _ _ hC), rfl⟩
  obtain ⟨hD1, hD2⟩ := hD2
  have hkc : (envF F f s.heap.objs.size).kindOf "__class__" = some .free := S.sc.frk "__class__" (by simp)
  obtain ⟨t1, hoa⟩ := exo_at I.hok ha
  have hself : ∃ u0 ur, us = u0 :: ur ∧ u0 = .ref a := by
    cases r with
    | nil => cases hva
    | @cons v0 u0 vr ur ra rr =>
      have : v0 = .ref a := by simpa using hva
      subst this
      exact ⟨u0, ur, rfl, ra⟩
  obtain ⟨u0, ur, rfl, rfl⟩ := hself
  obtain ⟨ps', rfl⟩ : ∃ ps', ps = ar.arg :: ps' := by
    cases ps with
    | nil => cases hps
    | cons x l => exact ⟨l, by rw [show x = ar.arg by simpa using hps]⟩
  have hloc : (envF F f s.heap.objs.size).kindOf ar.arg = some .local := S.sc.par _ (by simp)
  have hlook : (((ar.arg :: ps').zip (Value.ref a :: ur)).reverse).lookup ar.arg = some (Value.ref a) := by
    have ndP : (ar.arg :: ps').Nodup := by
      have q := S.sc.nd.sublist (List.take_sublist ((ar.arg :: ps').length + 1) N)
      have q2 := S.sc.pre
      simp only [List.length_cons, List.length_nil] at q2 q
      rw [q2] at q
      exact (List.nodup_append.mp q).1
    exact zip_look (i := 0) ndP rfl rfl
  have hmb := I.mod.blt
  obtain ⟨mb, hb1, hb2⟩ := hmb
  refine PySem.ks_wpAt_super_base (env := envF F f s.heap.objs.size) S.gs hkc (by decide) rfl (kp _ _ (KX _ _ lk)) rfl har rfl (kp _ _ (KX _ _ hcode)) rfl hvs hfile S.top ?_
  refine PySem.W.ks_loadName_global S.sc.kind S.gs (Calls.loadGlobal_builtin (by show Heap.Ns _ _ _; exact I.mod.glob.keeps I.bk) S.mgS (by show Heap.Ns _ _ _; exact hb1.keeps I.bk) ((hb2 _ (by decide)).trans (show bootBuiltins "super" = some (.type "super") by kernel_rfl)) ⟨rfl, ?_⟩)
  refine wpAny_loadName_free S.sc.kind hkc (show F.cl.lookup _ = some cc by rw [hcl]; simp [List.lookup]) ⟨_, kp _ _ (KX _ _ hcc), rfl⟩ ?_
  refine wpAny_loadName_local S.sc.kind hloc hns hlook ?_
  refine PySem.ks_wpAny_isType_cls hD1 hD2 ⟨rfl, ?_⟩
  refine PySem.ks_wpAny_call_super hD1 hD2 hoa rfl (fun c e => by cases e) (PySem.W.looks_mroIn (KX.keeps kp) S.mro) (fun h2 hso k2 => ?_)
  have K2 : K.In h2 := (KX.keeps kp).keeps k2
  have IA : PySem.W.InstAt h2 a _ D none := ⟨k2 _ _ hoa, rfl, rfl, trivial⟩
  cases hc : PySem.W.clsIn K D with
  | none =>
    have q := S.sup
    unfold PySem.W.ks_superIn at q
    rw [hc] at q
    cases q
  | some cd =>
    have hm := S.sup
    unfold PySem.W.ks_superIn at hm
    rw [hc] at hm
    refine PySem.W.kxs_getMethod PySem.W.kxs_ValueError hso (PySem.W.looks_opaque K2 S.any) (l₀ := cd.mro) (fun A Q E s k q => wpAny_bind ((PySem.W.looks_clsIn K2 hc) A _ E s k (wpAny_pure q))) rfl K2 hm (IA.type.andThen (PySem.W.looks_subIn K2 S.ve)) (PySem.W.ks_ne K2 IA hc) (by decide) ?_
    have k3 : ∀ b o, h2.get? b = some o → (h2.push (PySem.W.kxs_mw "ValueError.__init__" a)).get? b = some o := fun b o e => Heap.get?_push_of_some _ e
    have hu : (h2.push (PySem.W.kxs_mw "ValueError.__init__" a)).get? h2.objs.size = some (PySem.W.kxs_mw "ValueError.__init__" a) := Heap.get?_push_at rfl rfl
    have J := I.kept (t' := s.toks + ((ar.arg :: ps').zip (Value.ref a :: ur)).length + 1) (h' := h2.push (PySem.W.kxs_mw "ValueError.__init__" a)) fun b u e => k3 b u (k2 b u e)
    generalize h2.push (PySem.W.kxs_mw "ValueError.__init__" a) = h3 at hu J ⊢
    generalize h2.objs.size = u at hu ⊢
    refine PySem.W.kxs_callWith (i := "ValueError.__init__") (x := a) (by rfl) (Calls.evalArgs_plain ?_)
    refine Calls.spliced_cons (Calls.Constant_str (k := j) (pos := p3) (Calls.spliced_nil ⟨hu, ?_⟩))
    have ha' : (startF N vs [none]) = startF N vs [none] := rfl
    refine wrapped (X := ncx C8.CX0 P w K mg base N F f A outer s H E) S.cls (J.tok _) ha hu (by rw [sizeLine_eq]; show 1 ≤ 16777216; omega) fun s' I' => ?_
    refine wpAt_of_wpAny ?_
    refine wpAny_mono (ht.nox.run [] _ (startF N vs [none]) H _ I' hq) (fun fl s' hs => ?_) fun e s' hs => hs
    have fin : ∀ {σ' : L2.St} {H' : Hp} {v : V} {u : Value}, Inv (ncx C8.CX0 P w K mg base N F f A outer s H E) [] σ' H' s' → RelV v u → Q v H' → CE outer P w H s Q u s' :=
      fun {σ' H' v u} J rv q => ⟨v, H', J.os, J.bare, J.base, J.hok, rv, q⟩
    cases fl with
    | ret u =>
      obtain ⟨v, σ', H', J, rv, q⟩ := hs
      exact fin J rv q
    | next =>
      obtain ⟨σ', H', J, q⟩ := hs
      exact fin (v := V.non) (u := Value.none) J rfl q
    | brk =>
      obtain ⟨_, _, _, q⟩ := hs
      exact False.elim q
    | cont =>
      obtain ⟨_, _, _, q⟩ := hs
      exact False.elim q
end
end TL
end
section
set_option Elab.async false
set_option Elab.async false
set_option linter.all false
set_option autoImplicit false
set_option maxRecDepth 100000
set_option maxHeartbeats 4000000
namespace TL
open PySem PySem.Spec L2
section
variable {Γ : Gm} {E : XW} {ms : List Md} {rr : RC}
/-- as body_sim, for a def that may raise -/
theorem body_simX {pms lms : List Md} {t : TS} {s : M Ctl} {E : XK} (h : SimS Γ (fun _ => E) (pms ++ lms) rr t s) (hr : Back rr) {N : List Str} (hN : N.length = (pms ++ lms).length) {vs : List V} {H : Hp} {Q : VK}
    (hsp : spT Γ pms rr (runF s pms.length N.length) vs H Q E) : t { nx := fun _ H' => Q .non H', rt := Q } (L2.start N vs) H := by
  obtain ⟨W, ts, rfl, hl, hF, hp⟩ := hsp
  have hlt : ts.length = pms.length := by simpa using hF.lt
  have es : L2.start N vs = vs.map some ++ List.replicate lms.length none := by
    unfold L2.start
    rw [hN, List.length_append, hl]
    congr 2
    omega
  have et : ts.map some ++ List.replicate (N.length - pms.length) none = ts.map some ++ List.replicate lms.length (none : Option T) := by
    rw [hN, List.length_append]
    congr 2
    omega
  rw [es]
  have hE := enter (lms := lms) hF
  refine h W _ _ [] _ hE ?_
  unfold runF at hp
  rw [et] at hp
  have kk : ∀ {W' : Wd} {σ' : L2.St}, Nx (pms ++ lms) W (vs.map some ++ List.replicate lms.length none) W' σ' → ∀ (i : Nat) (m : Md), (pms[i]? = some m ∧ m.kept = true) → σ'[i]? = (vs.map some)[i]? := fun nx i n hi => by
    obtain ⟨hlt, _⟩ := List.getElem?_eq_some_iff.mp hi.1
    rw [nx.kl i n ⟨by rw [List.getElem?_append_left hlt]; exact hi.1, hi.2⟩, List.getElem?_append_left (by simp; omega)]
  cases hs : s (ts.map some ++ List.replicate lms.length none) with
  | stuck => rw [hs] at hp; exact hp
  | exc x τ' =>
    rw [hs] at hp
    intro W' σ' cls d nx hF' hx
    have hf : Fr Γ W' (sl (pms ++ lms) τ' σ') := by simpa using hF'.fr
    have lm : (mask pms (τ'.take pms.length)).length = pms.length := mask_len (by rw [List.length_take, hF'.lt, List.length_append]; omega)
    dsimp only at hp
    rw [pad_take (by rw [hF'.lt, List.length_append]; omega)] at hp
    exact hp W' cls d nx.le ⟨leave (R := []) (by simpa using hf) hF'.lt hF'.lv hl (kk nx), lm, by simpa using hl⟩ hx
  | ok c τ' =>
    rw [hs] at hp
    cases c with
    | bk => exact hp.elim
    | ct => exact hp.elim
    | nx =>
      intro W' σ' nx hF'
      have hf : Fr Γ W' (sl (pms ++ lms) τ' σ') := by simpa using hF'.fr
      have lm : (mask pms (τ'.take pms.length)).length = pms.length := mask_len (by rw [List.length_take, hF'.lt, List.length_append]; omega)
      dsimp only at hp
      rw [pad_take (by rw [hF'.lt, List.length_append]; omega)] at hp
      refine hp W' .non nx.le ?_
      cases rr with
      | now => exact hr.elim
      | sh => exact hr.elim
      | slot i => exact hr.elim
      | fz => exact ⟨⟨leave (R := []) (by simpa using hf) hF'.lt hF'.lv hl (kk nx), lm, by simpa using hl⟩, rfl⟩
      | own n => exact ⟨leave (R := [] ++ [(.own n, some .non, some .non)]) (by simpa using hf.scal repO_non) hF'.lt hF'.lv hl (kk nx), lm, by simpa using hl⟩
    | rt w =>
      intro W' σ' v nx hh
      have hF' := hh.fr
      have lm : (mask pms (τ'.take pms.length)).length = pms.length := mask_len (by rw [List.length_take, hF'.lt, List.length_append]; omega)
      dsimp only at hp
      rw [pad_take (by rw [hF'.lt, List.length_append]; omega)] at hp
      refine hp W' v nx.le ?_
      cases rr with
      | now => exact hr.elim
      | sh => exact hr.elim
      | slot i => exact hr.elim
      | fz => exact ⟨⟨leave (R := []) hF'.fr hF'.lt hF'.lv hl (kk nx), lm, by simpa using hl⟩, hh.2⟩
      | own n =>
        have h' : FrS Γ W' (pms ++ lms) τ' σ' ([] ++ [(.own n, some w, some v)]) := hh
        exact ⟨leave h'.fr hF'.lt hF'.lv hl (kk nx), lm, by simpa using hl⟩
/-- what an __init__ of its own lays down: the fields fs, in the order of the arguments -/
def spI (C : Addr) (fs : List Str) : Sp := fun vs H Q _ => ∃ a ws, vs = .ref a :: ws ∧ ws.length = fs.length ∧ H a = some (exo a C none) ∧ ∀ dx, H dx = none → dx ≠ a → Q .non (upd (upd H dx (exd dx (fs.zip ws).reverse)) a (exo a C (some dx)))
/-- raise C(..) -/
def tRs (C : Addr) (fs : List Str) (E : XW) (ta : TA) : TS := fun _ σ H => tMkO C (spI C fs) [] ta σ H (E σ)
/-- raise C('..'), C without an __init__ of its own -/
def tRs0 (C : Addr) (E : XW) : TS := fun _ σ H => E σ (.ref C) none H
theorem hasA_fx {W : Wd} {σ : L2.St} : ∀ {cs : List RC} {ts : List T} {vs : List V}, cs.all (fun c => decide (c = .fz)) = true → HasA Γ W σ cs ts vs → ts.length = vs.length ∧ ∀ (fs : List Str), RepF Γ W.F W.F (fs.zip ts) (fs.zip vs)
  | [], [], [], _, _ => ⟨rfl, fun fs => by cases fs <;> rfl⟩
  | c :: cs, t :: ts, v :: vs, hc, h => by
    rw [List.all_cons, Bool.and_eq_true, decide_eq_true_eq] at hc
    obtain ⟨rfl, hc⟩ := hc
    obtain ⟨l, r⟩ := hasA_fx hc h.2
    refine ⟨by rw [List.length_cons, List.length_cons, l], fun fs => ?_⟩
    cases fs with
    | nil => rfl
    | cons f fs => exact ⟨v, _, rfl, h.1, r fs⟩
  | [], [], _ :: _, _, h => h.elim
  | [], _ :: _, _, _, h => h.elim
  | _ :: _, [], _, _, h => h.elim
  | _ :: _, _ :: _, [], _, h => h.elim
theorem repF_app {F B : Hp} : ∀ {as bs : List (Str × T)} {av bv : List (Str × V)}, RepF Γ F B as av → RepF Γ F B bs bv → RepF Γ F B (as ++ bs) (av ++ bv)
  | [], _, _, _, ha, hb => by rw [show _ = [] from ha]; exact hb
  | (f, x) :: as, _, _, _, ⟨v, r, e, h1, h2⟩, hb => by rw [e]; exact ⟨v, _, rfl, h1, repF_app h2 hb⟩
theorem repF_rev {F B : Hp} : ∀ {as : List (Str × T)} {av : List (Str × V)}, RepF Γ F B as av → RepF Γ F B as.reverse av.reverse
  | [], _, ha => by rw [show _ = [] from ha]; rfl
  | (f, x) :: as, _, ⟨v, r, e, h1, h2⟩ => by
    rw [e, List.reverse_cons, List.reverse_cons]
    exact repF_app (repF_rev h2) ⟨v, [], rfl, h1, rfl⟩
theorem sim_raise {c : Str} {fs : List Str} {p : Bool} {ta : TA} {e : M (List T)} {cs : List RC} (ha : SimA Γ E ms p ta e cs) (hc : cs.all (fun c => decide (c = .fz)) = true) (hfl : fs.length ≤ 1000 := by decide) : SimS Γ E ms rr (tRs (Γ.cl c) fs E ta) (sRaise c fs e) := by
  intro W τ σ hs D hF hp
  refine ha W τ σ hs _ hF (PstS.bind hp fun W1 ws τ1 l hp1 vs hF1 hv => ?_)
  obtain ⟨hlen, hr⟩ := hasA_fx hc hv
  have hp2 : PstS Γ E ms rr W1 σ hs D ((if ws.length = fs.length then fun τ => .exc ⟨c, (fs.zip ws).reverse⟩ τ else M.stuck : M Ctl) τ1) := hp1
  by_cases hl : ws.length = fs.length
  · rw [if_pos hl] at hp2
    refine ⟨by rw [← hlen, hl]; exact hfl, fun a ha0 => ⟨a, vs, by rw [List.append_nil], by rw [← hlen, hl], upd_same, fun dx hd ne => ⟨rfl, dx, (fs.zip vs).reverse, upd_same, ?_, ?_, ?_⟩⟩⟩
    · rw [upd_ne ne, upd_same]
    · rwa [upd_ne ne] at hd
    · rw [upd_ne ne] at hd
      have e : upd (del (upd (upd (upd W1.H a (exo a (Γ.cl c) none)) dx (exd dx (fs.zip vs).reverse)) a (exo a (Γ.cl c) (some dx))) a) dx (.xd (fs.zip vs).reverse) = upd W1.H dx (.xd (fs.zip vs).reverse) := by
        funext b
        by_cases h1 : b = dx
        · rw [h1, upd_same, upd_same]
        · rw [upd_ne h1, upd_ne h1]
          by_cases h2 : b = a
          · rw [h2, del_same, ha0]
          · rw [del_ne h2, upd_ne h2, upd_ne h1, upd_ne h2]
      rw [e]
      obtain ⟨l2, f2⟩ := hF1.fr.newF (.xd (fs.zip vs).reverse) hd
      refine hp2 _ σ (.ref (Γ.cl c)) (some dx) (.of l2) ⟨f2, hF1.lt, hF1.lv⟩ ⟨rfl, .inr ⟨dx, _, rfl, upd_same, ?_⟩⟩
      exact RepF.mono l2.f _ l2.f (repF_rev (hr fs))
  · rw [if_neg hl] at hp2
    exact hp2.elim
theorem sim_raise0 {c : Str} : SimS Γ E ms rr (tRs0 (Γ.cl c) E) (sRaise c [] (M.pure [])) := by
  intro W τ σ hs D hF hp
  exact hp W σ (.ref (Γ.cl c)) none .refl hF ⟨rfl, .inl ⟨rfl, rfl⟩⟩
end
end TL
end
section
set_option Elab.async false
set_option Elab.async false
set_option linter.all false
set_option autoImplicit false
set_option maxRecDepth 100000
set_option maxHeartbeats 4000000
namespace TL
open PySem PySem.Spec PyProof.Rows L2 NdefX
section
variable {P : Program} {w : World} {K : PySem.W.Frag} {mg : Str → Option Value} {base : Heap}
/-- self.f = f, one after the other -/
def asg1 (f : Str) (q : Pos × Pos × Pos × Pos) : Stmt := .Assign [.Attribute (.Name "self" q.1) f q.2.1] (.Name f q.2.2.1) q.2.2.2
theorem asg_of {f : Str} {s : Stmt} (h : isAsg f s = true) : ∃ q, s = asg1 f q := by
  unfold isAsg at h
  split at h
  · rename_i s q1 g q2 p q3 q4
    simp only [Bool.and_eq_true, beq_iff_eq] at h
    obtain ⟨⟨rfl, rfl⟩, rfl⟩ := h
    exact ⟨(q1, q2, q3, q4), rfl⟩
  · cases h
theorem fn_init1 {F : NF} {fI D : Addr} {fd : FuncData} {f : Str} {q : Pos × Pos × Pos × Pos} {k : Nat} (S : SupI P K mg F fI D fd ["self", f, "__class__"] ["self", f] [asg1 f q]) (ho : okNm f = true) (hno : PySem.W.findIn K (.ref D) f = some none) : FnOk P w K mg base C8.CX0 (k + 1) fI fd ["self", f] (spI D [f]) := by
  unfold okNm at ho
  rw [Bool.and_eq_true, Bool.not_eq_true', Bool.not_eq_true'] at ho
  refine fn_sup S ?_ ?_
  · rintro vs H Q E ⟨a, ws, rfl, hl, _⟩
    simp at hl ⊢
    exact hl
  · rintro A outer s H vs Q E hr ⟨a, ws, rfl, hl, ha, hq⟩
    refine ⟨⟨a, rfl, ha⟩, ?_⟩
    obtain ⟨v, rfl⟩ : ∃ v, ws = [v] := by
      cases ws with
      | nil => simp at hl
      | cons v r => cases r with
        | nil => exact ⟨v, rfl⟩
        | cons u r => simp at hl
    refine ⟨_, pss_one (ps_ost (pv 0 (hN := rfl) (hv := .inl (S.sc.par _ (by simp)))) (pv 1 (hN := rfl) (hv := .inl (S.sc.par _ (by simp))) (hd := ho.1) (hcd := ho.2)) (hs := rfl)), ?_⟩
    refine ⟨v, rfl, .ref a, rfl, a, D, rfl, S.cls, hno, .inl ⟨ha, fun dx hdx ne => ?_⟩⟩
    exact hq dx hdx ne
theorem fn_init2 {F : NF} {fI D : Addr} {fd : FuncData} {f g : Str} {q r : Pos × Pos × Pos × Pos} {k : Nat} (S : SupI P K mg F fI D fd ["self", f, g, "__class__"] ["self", f, g] [asg1 f q, asg1 g r]) (hof : okNm f = true) (hog : okNm g = true) (hnf : PySem.W.findIn K (.ref D) f = some none) (hng : PySem.W.findIn K (.ref D) g = some none) : FnOk P w K mg base C8.CX0 (k + 1) fI fd ["self", f, g] (spI D [f, g]) := by
  unfold okNm at hof hog
  rw [Bool.and_eq_true, Bool.not_eq_true', Bool.not_eq_true'] at hof hog
  refine fn_sup S ?_ ?_
  · rintro vs H Q E ⟨a, ws, rfl, hl, _⟩
    simp at hl ⊢
    exact hl
  · rintro A outer s H vs Q E hr ⟨a, ws, rfl, hl, ha, hq⟩
    refine ⟨⟨a, rfl, ha⟩, ?_⟩
    obtain ⟨v, u, rfl⟩ : ∃ v u, ws = [v, u] := by
      match ws, hl with
      | [v, u], _ => exact ⟨v, u, rfl⟩
    refine ⟨_, pss_cons (ps_ost (pv 0 (hN := rfl) (hv := .inl (S.sc.par _ (by simp)))) (pv 1 (hN := rfl) (hv := .inl (S.sc.par _ (by simp))) (hd := hof.1) (hcd := hof.2)) (hs := rfl)) (pss_one (ps_ost (pv 0 (hN := rfl) (hv := .inl (S.sc.par _ (by simp)))) (pv 2 (hN := rfl) (hv := .inl (S.sc.par _ (by simp))) (hd := hog.1) (hcd := hog.2)) (hs := rfl))), ?_⟩
    refine ⟨v, rfl, .ref a, rfl, a, D, rfl, S.cls, hnf, .inl ⟨ha, fun dx hdx ne => ?_⟩⟩
    refine ⟨u, rfl, .ref a, rfl, a, D, rfl, S.cls, hng, .inr ⟨dx, [(f, v)], upd_same, ?_, by simp, ?_⟩⟩
    · rw [upd_ne ne, upd_same]
    · have e := hq dx hdx ne
      have e2 : upd (upd (upd H dx (exd dx [(f, v)])) a (exo a D (some dx))) dx (exd dx [(g, u), (f, v)]) = upd (upd H dx (exd dx [(g, u), (f, v)])) a (exo a D (some dx)) := by
        funext b
        by_cases h1 : b = dx
        · rw [h1, upd_same, upd_ne ne, upd_same]
        · rw [upd_ne h1]
          by_cases h2 : b = a
          · rw [h2, upd_same, upd_same]
          · rw [upd_ne h2, upd_ne h2, upd_ne h1, upd_ne h1]
      show Q .non (upd (upd (upd H dx (exd dx [(f, v)])) a (exo a D (some dx))) dx (exd dx [(g, u), (f, v)]))
      rw [e2]
      exact e
end
end TL
end
section
set_option Elab.async false
set_option Elab.async false
set_option linter.all false
set_option autoImplicit false
set_option maxRecDepth 100000
set_option maxHeartbeats 4000000
namespace TL
open PySem PySem.Spec PyProof.Rows L2 NdefX
theorem oex_of {K : PySem.W.Frag} {C : Addr} (h : oexB K C = true) : OexC K C := by
  unfold oexB at h
  simp only [Bool.and_eq_true, decide_eq_true_eq] at h
  obtain ⟨h1, h2, h3, h4, h5⟩ := h
  refine ⟨?_, h2, h3, h4, h5⟩
  split at h1
  · rename_i ty dd cd sl ho
    rw [Bool.and_eq_true, beq_iff_eq] at h1
    obtain ⟨rfl, h1⟩ := h1
    split at h1
    · rename_i m bm k0 k1 k2 k3 n k5 hm hs
      simp only [Bool.and_eq_true, beq_iff_eq, Bool.not_eq_true'] at h1
      obtain ⟨rfl, rfl, hd, hh, hr⟩ := h1
      obtain ⟨nm, bs, mro, ns, qn, hdi, sn, sub, ab, col, del⟩ := cd
      dsimp only at hm hd hh
      subst hm hd hh
      have e : sl = #[k0, k1, k2, k3, some (.builtin "ValueError.__new__"), k5] := Array.toList_inj.mp hs
      subst e
      exact ⟨nm, qn, ns, bs, bm, sn, sub, ab, col, dd, k0, k1, k2, k3, k5, ho, hr⟩
    · cases h1
  · cases h1
theorem cell_of {K : PySem.W.Frag} {cc D : Addr} (h : cellB K cc D = true) : ∃ a b c, K.lookup cc = some ⟨a, b, .cell (some (.ref D)), c⟩ := by
  unfold cellB at h
  split at h
  · rename_i a b v c ho
    rw [beq_iff_eq] at h
    subst h
    exact ⟨a, b, c, ho⟩
  · cases h
theorem code_of {K : PySem.W.Frag} {file : Str} {c : Addr} (h : codeB K file c = true) : ∃ a b d vs f t, K.lookup c = some ⟨a, b, .fields vs, d⟩ ∧ vs[2]? = some (.str f t) ∧ (f == file) = true := by
  unfold codeB at h
  split at h
  · rename_i a b vs d ho
    split at h
    · rename_i f t e
      exact ⟨a, b, d, vs, f, t, ho, e, h⟩
    · cases h
  · cases h
theorem rest_of : ∀ {fs : List Str} {r : List Stmt}, restB fs r = true → ∃ qs : List (Pos × Pos × Pos × Pos), qs.length = fs.length ∧ r = (fs.zip qs).map fun p => asg1 p.1 p.2
  | [], [], _ => ⟨[], rfl, rfl⟩
  | f :: fs, s :: r, h => by
    have h : (isAsg f s && restB fs r) = true := h
    rw [Bool.and_eq_true] at h
    obtain ⟨q, rfl⟩ := asg_of h.1
    obtain ⟨qs, hl, rfl⟩ := rest_of h.2
    exact ⟨q :: qs, by simp [hl], rfl⟩
  | [], _ :: _, h => by cases h
  | _ :: _, [], h => by cases h
structure ExK (P : Program) (K : PySem.W.Frag) (mg : Str → Option Value) (D : Addr) (fs : List Str) : Prop where
  o : OexC K D
  no : ∀ f ∈ fs, PySem.W.findIn K (.ref D) f = some none
  i : ∃ fI fd ps, PySem.W.findIn K (.ref D) "__init__" = some (some (.ref fI)) ∧ PySem.W.typeIn K (.ref fI) = some (.type "function") ∧ Binds K fd ps [] ∧ ∀ (w : World) (base : Heap) (k : Nat), FnOk P w K mg base C8.CX0 (k + 1) fI fd ps (spI D fs)
/-- how the arguments are bound, at these names -/
def Bd1 (f : Str) : Prop := ∀ (name qual : Str) (body : List Stmt) (scope : Scope) (cl : List (Str × Addr)) (c : Addr) (doc pm ct : Value) (x0 x1 : Option Expr) (y0 y1 : Pos) (u v : Value), bindArgs (NF.fd ⟨name, qual, ⟨[], [⟨"self", x0, y0⟩, ⟨f, x1, y1⟩], none, [], [], none, []⟩, body, scope, cl, c⟩ doc pm ct) ⟨[u, v], []⟩ = pure [(("self" : Str), u), (f, v)]
def Bd2 (f g : Str) : Prop := ∀ (name qual : Str) (body : List Stmt) (scope : Scope) (cl : List (Str × Addr)) (c : Addr) (doc pm ct : Value) (x0 x1 x2 : Option Expr) (y0 y1 y2 : Pos) (u v z : Value), bindArgs (NF.fd ⟨name, qual, ⟨[], [⟨"self", x0, y0⟩, ⟨f, x1, y1⟩, ⟨g, x2, y2⟩], none, [], [], none, []⟩, body, scope, cl, c⟩ doc pm ct) ⟨[u, v, z], []⟩ = pure [(("self" : Str), u), (f, v), (g, z)]
theorem bd_place : Bd1 "place" := fun _ _ _ _ _ _ _ _ _ _ _ _ _ _ _ => rfl
def BdF : List Str → Prop
  | [f] => Bd1 f
  | [f, g] => Bd2 f g
  | _ => False
theorem eq1 {α : Type} {l : List α} (h : l.length = 1) : ∃ a, l = [a] := by
  match l, h with
  | [a], _ => exact ⟨a, rfl⟩
theorem eq2 {α : Type} {l : List α} (h : l.length = 2) : ∃ a b, l = [a, b] := by
  match l, h with
  | [a, b], _ => exact ⟨a, b, rfl⟩
theorem eq3 {α : Type} {l : List α} (h : l.length = 3) : ∃ a b c, l = [a, b, c] := by
  match l, h with
  | [a, b, c], _ => exact ⟨a, b, c, rfl⟩
theorem exk_of {P : Program} {K : PySem.W.Frag} {mg : Str → Option Value} {D : Addr} {fs : List Str} {file : Str} (h : exkB file K D fs = true) (hP : supP file P = true) (hm : mg "super" = none) (hbd : BdF fs) : ExK P K mg D fs := by
  unfold exkB at h
  simp only [Bool.and_eq_true, beq_iff_eq] at h
  obtain ⟨h1, h2, h3, h4, h5, h6, h7⟩ := h
  have O := oex_of h1
  rw [List.all_eq_true] at h6
  have h6' : ∀ f ∈ fs, okNm f = true ∧ PySem.W.findIn K (.ref D) f = some none := fun f hf => by
    have := h6 f hf
    rw [Bool.and_eq_true, decide_eq_true_eq] at this
    exact this
  refine ⟨O, fun f hf => (h6' f hf).2, ?_⟩
  split at h7
  · rename_i fI hfI
    rw [Bool.and_eq_true, decide_eq_true_eq] at h7
    obtain ⟨ht, h8⟩ := h7
    unfold initB at h8
    split at h8
    · rename_i oc od fd osl ho
      obtain ⟨name, qual, params, body, scope, globals, closure, defaults, kwdefaults, doc, pm, an, code, ct, blt⟩ := fd
      simp only [Bool.and_eq_true, beq_iff_eq, decide_eq_true_eq] at h8
      obtain ⟨b1, b2, b3, rfl, rfl, rfl, rfl, b4, b5, b6, b7, b8⟩ := h8
      obtain rfl : an = none := by cases an <;> simp at b4 ⊢
      split at b1
      · rename_i b
        split at b5
        · rename_i n cc
          rw [Bool.and_eq_true, beq_iff_eq] at b5
          obtain ⟨rfl, b5⟩ := b5
          split at b6
          · rename_i c
            obtain ⟨ca, cb, cd, hcc⟩ := cell_of b5
            obtain ⟨da, db, dd, vs, fl, tk, hco, hvs, hfl⟩ := code_of b6
            unfold supP at hP
            rw [Bool.and_eq_true, beq_iff_eq, Bool.not_eq_true'] at hP
            obtain ⟨hP1, hP2⟩ := hP
            unfold bodyB at b1
            split at b1
            · rename_i s p0 p1 i p2 txt j p3 p4 p5 rest
              simp only [Bool.and_eq_true, beq_iff_eq] at b1
              obtain ⟨rfl, rfl, hpl, hre⟩ := b1
              obtain ⟨qs, hql, rfl⟩ := rest_of hre
              unfold paramsB at b2
              simp only [Bool.and_eq_true, beq_iff_eq, List.isEmpty_iff, Option.isNone_iff_eq_none] at b2
              obtain ⟨po, ar, va, ko, kd, ka, df⟩ := params
              dsimp only at b2
              obtain ⟨rfl, rfl, rfl, rfl, rfl, rfl, har⟩ := b2
              have hd : ∃ a, (([] : List PySem.Arg) ++ ar).head? = some a ∧ ((("self" : Str) :: fs).head?) = some a.arg := by
                cases ar with
                | nil => cases har
                | cons a r => exact ⟨a, rfl, by rw [← har]; rfl⟩
              have S : SupI P K mg ⟨name, qual, ⟨[], ar, none, [], [], none, []⟩, _, scope, [(("__class__" : Str), cc)], c⟩ fI D _ (("self" : Str) :: fs ++ [("__class__" : Str)]) (("self" : Str) :: fs) ((fs.zip qs).map fun p => asg1 p.1 p.2) :=
                ⟨⟨oc, od, osl, doc, pm, ct, ho, rfl⟩, b7, nscope_by b3, ⟨p0, p1, p2, p3, p4, p5, txt, j, rfl, by rw [beq_iff_eq]; exact hpl⟩, hd, ⟨da, db, dd, vs, fl, tk, hco, hvs, by rw [hP1]; rw [beq_iff_eq] at hfl ⊢; exact hfl.symm⟩, hP2, ⟨cc, ca, cb, cd, rfl, hcc⟩, O, h2, b8, hm, h3, h4, h5⟩
              have hfs : fs.length = 1 ∨ fs.length = 2 := by
                unfold BdF at hbd
                split at hbd
                · exact .inl rfl
                · exact .inr rfl
                · exact hbd.elim
              rcases hfs with hl | hl
              · obtain ⟨f, rfl⟩ := eq1 hl
                obtain ⟨q, rfl⟩ := eq1 hql
                obtain ⟨⟨n0, x0, y0⟩, ⟨n1, x1, y1⟩, rfl⟩ := eq2 (l := ar) (by simpa using congrArg List.length har)
                have har2 : n0 = "self" ∧ n1 = f := by simpa using har
                obtain ⟨e1, e2⟩ := har2
                subst e1 e2
                refine ⟨fI, _, _, hfI, ht, .all fun us hu => ?_, fun w base k => fn_init1 S (h6' _ (by simp)).1 (h6' _ (by simp)).2⟩
                obtain ⟨u, v, rfl⟩ := eq2 hu
                exact hbd _ _ _ _ _ _ _ _ _ _ _ _ _ _ _
              · obtain ⟨f, g, rfl⟩ := eq2 hl
                obtain ⟨q, r, rfl⟩ := eq2 hql
                obtain ⟨⟨n0, x0, y0⟩, ⟨n1, x1, y1⟩, ⟨n2, x2, y2⟩, rfl⟩ := eq3 (l := ar) (by simpa using congrArg List.length har)
                have har2 : n0 = "self" ∧ n1 = f ∧ n2 = g := by simpa using har
                obtain ⟨e1, e2, e3⟩ := har2
                subst e1 e2 e3
                refine ⟨fI, _, _, hfI, ht, .all fun us hu => ?_, fun w base k => fn_init2 S (h6' _ (by simp)).1 (h6' _ (by simp)).1 (h6' _ (by simp)).2 (h6' _ (by simp)).2⟩
                obtain ⟨u, v, z, rfl⟩ := eq3 hu
                exact hbd _ _ _ _ _ _ _ _ _ _ _ _ _ _ _ _ _ _
            · cases b1
          · cases b6
        · cases b5
      · cases b1
    · cases h8
  · cases h7
end TL
end
section
set_option Elab.async false
set_option Elab.async false
set_option linter.all false
set_option autoImplicit false
set_option maxRecDepth 100000
set_option maxHeartbeats 4000000
namespace TL
open PySem PySem.Spec PyProof.Rows L2
def wx (E : XW) : WX := fun cls d σ H => E σ cls d H
section
variable {X : Cx} {E : XW} {D : Addr} {fs : List Str} {c : Str} {e : Expr} {es : List Expr} {ta : TA} {p pos pos' : Pos}
theorem ps_rs (T : ExK X.prog X.K X.mg D fs) (hc : X.calm = true) (tk : Takes X (wx E)) (hr : Room 2 X.A) (hg : Gl X c) (hm : X.mg c = some (.ref D)) (ha : PA X (e :: es) ta)
    (hdb : (c == ("__debug__" : Str)) = false := by decide) (he : starEach (e :: es) X.env = (false, eval e X.env) :: starEach es X.env := by rfl) (hpl : (backTo pos (starEach es X.env)).any (·.1) = false := by rfl) :
    PS X (.Raise (some (.Call (.Name c p) (e :: es) [] pos)) none pos') (tRs D fs E ta) := by
  obtain ⟨fI, fd, ps, h1, h2, h3, h4⟩ := T.i
  exact ps_raise hc tk (pmk_oex (k := 1) T.o h1 h2 (h4 X.w X.base 0) hr h3 .nil C8.pass0 hg hm ha (hdb := hdb) (he := he) (hpl := hpl))
/-- an own class without an __init__ of its own -/
structure Ex0 (K : PySem.W.Frag) (D : Addr) : Prop where
  q : PySem.W.excIn K D [.type "ValueError", .type "Exception", .type "BaseException", .type "object"] "ValueError.__new__" = true
  k : PySem.W.keepIn K (.ref D) = true
  b : PySem.W.subIn K (.ref D) (.type "BaseException") = some true
  t : PySem.W.typeIn K (.ref D) = some (.type "type")
theorem ex0_of {K : PySem.W.Frag} {D : Addr} (h : ex0B K D = true) : Ex0 K D := by
  unfold ex0B at h
  simp only [Bool.and_eq_true, beq_iff_eq] at h
  exact ⟨h.1, h.2.1, h.2.2.1, h.2.2.2⟩
theorem ps_rs0 {m : Str} {j : Nat} {p2 : Pos} (T : Ex0 X.K D) (hc : X.calm = true) (tk : Takes X (wx E)) (hg : Gl X c) (hm : X.mg c = some (.ref D)) (hdb : (c == ("__debug__" : Str)) = false := by decide) :
    PS X (.Raise (some (.Call (.Name c p) [.Constant (.str m) j p2] [] pos)) none pos') (tRs0 D E) :=
  ps_raise hc tk (pmk_own PySem.F.excBase_ValueError T.q hm T.k (raises_own T.b T.t) hg (hdb := hdb))
end
/-- a def of the text that may raise -/
structure CalX (P : Program) (w : World) (K : PySem.W.Frag) (mg : Str → Option Value) (base : Heap) (k : Nat) (nm : Str) (sp : Sp) : Prop where
  ex : ∃ f fd ps, FnOk P w K mg base (L2.CX P w) k f fd ps sp ∧ mg nm = some (.ref f) ∧ PySem.W.keepIn K (.ref f) = true ∧ Binds K fd ps []
section
variable {X : Cx} {E : XW} {nm : Str} {e : Expr} {es : List Expr} {ta : TA} {p pos : Pos} {k j : Nat} {sp : Sp}
theorem pe_cX (c : CalX X.prog X.w X.K X.mg X.base k nm sp) (hr : Room j X.A) (hk : k ≤ j) (hg : Gl X nm) (tk : Takes X (wx E)) (ha : PA X (e :: es) ta) (hdb : (nm == ("__debug__" : Str)) = false := by decide)
    (he : starEach (e :: es) X.env = (false, eval e X.env) :: starEach es X.env := by rfl) (hpl : (backTo pos (starEach es X.env)).any (·.1) = false := by rfl) : PE X (.Call (.Name nm p) (e :: es) [] pos) (tCallW sp E ta) := by
  obtain ⟨f, fd, ps, F, hm, hkp, bd⟩ := c.ex
  have h : PE X (.Call (.Name nm p) (e :: es) [] pos) (tCallS sp E ta) := pe_callS F (hr.mono hk) hg hm hkp bd (fun σ => passAt tk σ) ha (hdb := hdb) (he := he) (hpl := hpl)
  have e : tCallW sp E ta = tCallS sp E ta := by
    funext σ H Q
    show ta σ H _ = ta σ H _
    congr 1
    funext vs H1
    rw [List.append_nil]
  rw [e]
  exact h
end
end TL
end
section
set_option Elab.async false
set_option Elab.async false
set_option linter.all false
set_option autoImplicit false
set_option maxRecDepth 100000
set_option maxHeartbeats 4000000
namespace TL
open PySem PySem.Spec PyProof.Rows L2
/-- what isinstance of the error asks: its class D, its dict at d -/
def rIsX (K : PySem.W.Frag) (D a : Addr) (d : Option Addr) : List V → Hp → VK → Prop := fun xs H Q => ∃ (c : V) (cv : Value) (b : Bool), xs = [.ref a, c] ∧ (∀ u, RelV c u → u = cv) ∧ (d = none ∨ ∃ dd fs, d = some dd ∧ H dd = some (.xd fs)) ∧ PySem.W.kitOne K (.ref D) cv = some b ∧ Q (.bl b) H
theorem call_isX {X : Cx} {a D : Addr} {d : Option Addr} {oe : Obj} {pn : List (Addr × Obj)} (C : ExcC X.K D) (hz : Zc (.ref D) d oe) (hf : ∃ vs, oe.data = .fields vs) : CallR (X.suite a ((a, oe) :: pn)) (.builtin "isinstance") (rIsX X.K D a d) := by
  intro pins s σ H xs us Q I r h
  obtain ⟨c, cv, b, rfl, hcv, hdd, e, q⟩ := h
  cases r with
  | cons rx rr =>
    cases rr with
    | cons rt rr =>
      cases rr
      cases rx
      have ec := hcv _ rt
      subst ec
      obtain ⟨hget, _⟩ := I.pin (a, oe) (List.mem_append.mpr (.inl List.mem_cons_self))
      obtain ⟨vs, hv⟩ := hf
      have J : ∃ od, PySem.W.InstAt s.heap a oe D od := by
        rcases hdd with rfl | ⟨dd, fs, rfl, hx⟩
        · exact ⟨none, hget, hz.1, by unfold PySem.W.notCls; rw [hv], by rw [hz.2]; trivial⟩
        · have hx : ObjOk X.prog X.w H s.heap dd (.xd fs) := I.hok dd _ hx
          obtain ⟨mA, hns, hr⟩ := hx
          obtain ⟨od, ho, hl⟩ := lookIn_ns hns
          exact ⟨some od, hget, hz.1, by unfold PySem.W.notCls; rw [hv], by rw [hz.2]; exact ho⟩
      obtain ⟨od, J⟩ := J
      have hcl : (PySem.W.clsIn X.K D).isSome = true := by
        obtain ⟨cd, hc, _⟩ := PySem.W.any_some C.hd
        rw [hc]; rfl
      exact PySem.W.kia_one (PySem.W.kitx_exc hcl C.hg C.hk C.hs C.ha C.hn C.ht C.hm) I.kIn J e (fun z => nomatch z) fun tk => ⟨.bl b, H, I.kept (t' := tk) fun _ _ z => z, rfl, q⟩
/-- a suite that knows the error's class -/
def tOfC (C : Addr) (cls : Value) (ts : TS) : TS := fun D σ H => cls = .ref C ∧ ts D σ H
section
variable {X : Cx} {x n : Str} {C : Addr} {i : Nat} {body suite : List Stmt} {b₀ : Stmt} {np pos pos' : Pos} {tb : WX → TS} {ts : Addr → Option Addr → TS} {ts0 : TS} {E : XW}
theorem names_of (hg : Gl X x) (hm : X.mg x = some (.ref C)) (hd : (x == ("__debug__" : Str)) = false := by decide) : Names X x (.ref C) := ⟨hg, hd, .inl hm⟩
end
end TL
end
section
set_option Elab.async false
set_option Elab.async false
set_option linter.all false
set_option autoImplicit false
set_option maxRecDepth 100000
set_option maxHeartbeats 4000000
namespace TL
open PySem PySem.Spec L2
theorem sl_set2 : ∀ {ms : List Md} {τ : Tau} {σ : L2.St} {i : Nat} {m : Md} (m' : Md) (t : Option T) (v : Option V), ms[i]? = some m → (sl (ms.set i m') τ σ).set i (m, t, v) = sl ms (τ.set i t) (σ.set i v)
  | [], _, _, _, _, _, _, _, h => by simp at h
  | _ :: _, [], _, i, _, _, _, _, _ => by cases i <;> simp [sl]
  | _ :: _, _ :: _, [], i, _, _, _, _, _ => by cases i <;> simp [sl]
  | m0 :: ms, t0 :: τ, v0 :: σ, 0, m, m', t, v, h => by
    have : m0 = m := by simpa using h
    subst this
    simp [sl]
  | m0 :: ms, t0 :: τ, v0 :: σ, i + 1, m, m', t, v, h => by
    have := sl_set2 (τ := τ) (σ := σ) m' t v (show ms[i]? = some m by simpa using h)
    simpa [sl] using this
theorem sl_set3 : ∀ {ms : List Md} {τ : Tau} {σ : L2.St} {i : Nat} (m' : Md) (t : Option T) (v : Option V), (sl ms τ σ).set i (m', t, v) = sl (ms.set i m') (τ.set i t) (σ.set i v)
  | [], _, _, i, _, _, _ => by simp [sl]
  | _ :: _, [], _, i, _, _, _ => by cases i <;> simp [sl]
  | _ :: _, _ :: _, [], i, _, _, _ => by cases i <;> simp [sl]
  | m0 :: ms, t0 :: τ, v0 :: σ, 0, m', t, v => by simp [sl]
  | m0 :: ms, t0 :: τ, v0 :: σ, i + 1, m', t, v => by
    have := sl_set3 (ms := ms) (τ := τ) (σ := σ) (i := i) m' t v
    simpa [sl] using this
section
variable {Γ : Gm} {E : XW} {ms : List Md} {rr : RC}
def xw (W : WX) : XW := fun σ cls d H => W cls d σ H
/-- the error out of its slot -/
theorem FrS.unex {W : Wd} {τ : Tau} {σ : L2.St} {hs : List Slot} {i : Nat} {m m' : Md} (h : FrS Γ W (ms.set i m') τ σ hs) (hi : ms[i]? = some m) : FrS Γ W ms (τ.set i none) (σ.set i none) hs := by
  have hl := sl_len h.lt h.lv
  obtain ⟨hlt, _⟩ := List.getElem?_eq_some_iff.mp hi
  have f := h.fr.forget i m none
  rw [List.set_append_left _ _ (by rw [hl, List.length_set]; exact hlt), sl_set2 m' none none hi] at f
  exact ⟨f, by rw [List.length_set, h.lt, List.length_set], by rw [List.length_set, h.lv, List.length_set]⟩
/-- the error into its slot -/
theorem FrS.toex {W : Wd} {τ : Tau} {σ : L2.St} {hs : List Slot} {i : Nat} {m : Md} {a : Addr} {d : Option Addr} {x : Exn} {cls : Value} (h : FrS Γ W ms τ σ hs) (hi : ms[i]? = some m) (hx : RepX Γ W x cls d) :
    FrS Γ W (ms.set i (.ex a d)) (τ.set i (some (.ins x.c x.fs))) (σ.set i (some (.ref a))) hs := by
  have hl := sl_len h.lt h.lv
  obtain ⟨hlt, _⟩ := List.getElem?_eq_some_iff.mp hi
  have f := (h.fr.new (H' := W.H) (s := (.ex a d, some (.ins x.c x.fs), some (.ref a))) (fp := []) (Same.refl _) ⟨rfl, rfl, by
    rcases hx.2 with e | ⟨dd, fv, e1, e2, e3⟩
    · exact .inl e
    · exact .inr ⟨dd, fv, e1, e2, e3⟩⟩ (by simp) (fun _ q => nomatch q)).put i
  rw [List.set_append_left _ _ (by rw [hl]; exact hlt), sl_set3] at f
  exact ⟨f, by rw [List.length_set, h.lt, List.length_set], by rw [List.length_set, h.lv, List.length_set]⟩
theorem Nx.unex {W W' : Wd} {σ σ' : L2.St} {i : Nat} {a : Addr} {d : Option Addr} {v : V} (hi : ms[i]? = some (.own 0)) (n : Nx (ms.set i (.ex a d)) W (σ.set i (some v)) W' σ') : Nx ms W σ W' (σ'.set i none) := by
  refine ⟨n.le, fun j m ⟨h1, h2⟩ => ?_⟩
  by_cases e : i = j
  · subst e
    rw [hi] at h1; cases h1; cases h2
  · rw [List.getElem?_set_ne e, n.kl j m ⟨by rw [List.getElem?_set_ne e]; exact h1, h2⟩, List.getElem?_set_ne e]
/-- a field of the error -/
theorem sim_exF {c f : Str} {i : Nat} {a : Addr} {d : Option Addr} (hm : ms[i]? = some (.ex a d)) : SimE Γ E ms true (tXf a (.ref (Γ.cl c)) d (Γ.cl c) f (tVar i)) (exF i f) .fz := by
  intro W τ σ hs Q hF hp
  unfold exF at hp
  obtain ⟨t, ht, hp⟩ := getP_ok hp
  obtain ⟨v, fp, hv, hg, hsl, _, _⟩ := hF.slot hm ht
  obtain ⟨_, hrep⟩ := hsl
  cases t with
  | ins c0 fs =>
    obtain ⟨rfl, hfs⟩ := hrep
    dsimp only at hp
    cases hl : fs.lookup f with
    | none => rw [hl] at hp; exact hp.elim
    | some w =>
      rw [hl] at hp
      rcases hfs with ⟨rfl, _⟩ | ⟨dd, fv, e1, e2, e3⟩
      · cases hl
      · obtain ⟨v2, h1, h2⟩ := repF_look e3 hl
        exact ⟨.ref a, hv, rfl, rfl, dd, fv, v2, e1, (hF.fr.fb.trans hF.fr.bh) _ _ e2, h1, hp W Go.refl v2 ⟨hF, h2⟩⟩
  | _ => exact hrep.elim
/-- isinstance(e, b) -/
theorem sim_exI {c b : Str} {i : Nat} {a : Addr} {d : Option Addr} {vc : V} {vv : Value} (hm : ms[i]? = some (.ex a d)) (hv : ∀ u, RelV vc u → u = vv) (hk : PySem.W.kitOne Γ.K (.ref (Γ.cl c)) vv = some (exSub c b || decide (b = PySem.Str.ofString "ValueError"))) :
    SimE Γ E ms true (tCB (rIsX Γ.K (Γ.cl c) a d) (tCons (tVar i) (tCons (tC vc) tNil))) (exI i c b) .fz := by
  intro W τ σ hs Q hF hp
  unfold exI at hp
  obtain ⟨t, ht, hp⟩ := getP_ok hp
  obtain ⟨v, fp, hv2, hg, hsl, _, _⟩ := hF.slot hm ht
  obtain ⟨_, hrep⟩ := hsl
  cases t with
  | ins c0 fs =>
    obtain ⟨rfl, hfs⟩ := hrep
    dsimp only at hp
    by_cases hc0 : c0 = c
    · rw [if_pos hc0] at hp
      refine ⟨.ref a, hv2, vc, vv, _, rfl, hv, ?_, hk, hp W Go.refl (.bl _) ⟨hF, rfl⟩⟩
      rcases hfs with ⟨_, e⟩ | ⟨dd, fv, e1, e2, e3⟩
      · exact .inl e
      · exact .inr ⟨dd, fv, e1, (hF.fr.fb.trans hF.fr.bh) _ _ e2⟩
    · rw [if_neg hc0] at hp
      exact hp.elim
  | _ => exact hrep.elim
end
end TL
end
section
set_option Elab.async false
set_option Elab.async false
set_option linter.all false
set_option autoImplicit false
set_option maxRecDepth 100000
set_option maxHeartbeats 4000000
namespace TL
open PySem PySem.Spec PyProof.Rows L2
abbrev Cl := Value × Option Nat × (Addr → Value → Option Addr → TS)
def off1 (i : Nat) (D : Ends) : Ends := { nx := fun τ G => D.nx (τ.set i none) G, rt := D.rt, bk := fun τ G => D.bk (τ.set i none) G, ct := fun τ G => D.ct (τ.set i none) G }
def atCl (o : Option Nat) (ts : TS) (a : Addr) : TS := match o with
  | none => ts
  | some i => fun D σ H => ts (off1 i D) (σ.set i (some (.ref a))) H
/-- what the clauses l wish of an error of the body -/
def wMix (K : PySem.W.Frag) (W0 : WX) (D : Ends) : List Cl → WX
  | [] => W0
  | q :: r => fun cls d σ H => ∃ b, PySem.W.exmOne K cls q.1 = some b ∧ (b = true → ∀ a, H a = none → atCl q.2.1 (q.2.2 a cls d) a D σ H) ∧ (b = false → wMix K W0 D r cls d σ H)
/-- the clauses as they are written -/
inductive ClsM (X : Cx) : List ExceptHandler → List Cl → Prop
  | nil : ClsM X [] []
  | one {x : Str} {c : Value} {o : Option Nat} {n : Option Str} {ts : Addr → Value → Option Addr → TS} {b : Stmt} {bs : List Stmt} {p q : Pos} {hs : List ExceptHandler} {l : List Cl} (hc : Names X x c)
      (hn : (o = none ∧ n = none) ∨ ∃ i z, o = some i ∧ n = some z ∧ X.N[i]? = some z ∧ X.env.kindOf z = some .local)
      (hb : ∀ (a : Addr) (oe : Obj) (cls : Value) (d : Option Addr) (pn : List (Addr × Obj)), Zc cls d oe → (∃ vs, oe.data = .fields vs) → PSs (X.suite a ((a, oe) :: pn)) (b :: bs) (ts a cls d)) (r : ClsM X hs l) :
      ClsM X (.ExceptHandler (some (.Name x p)) n (b :: bs) q :: hs) ((c, o, ts) :: l)
section
variable {X : Cx} {body : List Stmt} {h0 : ExceptHandler} {hds : List ExceptHandler} {l : List Cl} {pos : Pos} {tb : WX → TS} {W0 : WX}
theorem ps_tryM (hst : X.stack = X.env :: X.outer) (hfr : X.env.frame = some X.env.locals) (hN : X.N.Nodup) (tk : Takes X W0)
    (hb : ∀ (W : WX) (pn : List (Addr × Obj)) (xe : Value → Shared → Prop), Takes (X.tr pn xe) W → PassesOwn (model X.prog X.w) X.A X.env xe → PSs (X.tr pn xe) body (tb W))
    (hh : ClsM X (h0 :: hds) l) : PS X (.Try body (h0 :: hds) [] [] pos) (fun D σ H => tb (wMix X.K W0 D l) D σ H) := by
  refine ⟨fun pins s σ H D I h => wpAny_Try_except ?_⟩
  have ok := I.ok
  have frs2 : X.A.frames = some (X.env :: X.outer) := ok.frames.trans (congrArg some hst)
  let caught : Value → Shared → Prop := fun e s1 => wpAny (model X.prog X.w) X.A (noteFrame e X.env) (fun _ s2 => wpAny (model X.prog X.w) X.A (setFlight e none) (fun _ s3 => wpAny (model X.prog X.w) X.A (handleBy e X.env (h0 :: hds)) (SP X pins D) X.xe s3) X.xe s2) X.xe s1
  have tk2 : Takes (X.tr (X.pn ++ pins) caught) (wMix X.K W0 D l) := by
    intro u s1 hx
    obtain ⟨a, B, sI, pins', σ1, H1, cls, d, rfl, J0, nb, up, sky, na, os, ag, w⟩ := hx
    have J := J0.ofTry ok
    have sky1 : Sky B (X.env :: X.outer) a (Zc cls d) X.env.locals s1.heap := hst ▸ sky
    show wpAny (model X.prog X.w) X.A (noteFrame (.ref a) X.env) _ _ _
    refine Sky.land Zc.steady frs2 hfr sky1 fun hA fA uA => ?_
    have JA : Inv X pins σ1 H1 { s1 with heap := hA } := J.landed nb fA.1 (up.trans uA) os ag
    obtain ⟨oA, vA, gA, zA, dA⟩ := fA.there
    have out : a ∉ frs (X.env :: X.outer) := fun m => by
      obtain ⟨_, o, g, nf⟩ := fA.2.2.1.mem m
      rw [gA] at g
      cases g
      exact nf _ dA
    have aL : a ≠ X.env.locals := fun e => out (List.mem_filterMap.mpr ⟨X.env, List.mem_cons_self, hfr.trans (congrArg some e.symm)⟩)
    have aF : a ∉ X.fs := fun m => by
      obtain ⟨e, he, q⟩ := List.mem_filterMap.mp m
      exact out (List.mem_filterMap.mpr ⟨e, List.mem_cons_of_mem _ he, q⟩)
    have SA := JA.suite gA dA na aL aF
    have go : ∀ {hs : List ExceptHandler} {cl : List Cl}, ClsM X hs cl → wMix X.K W0 D cl cls d σ1 H1 → wpAny (model X.prog X.w) X.A (handleBy (.ref a) X.env hs) (SP X pins D) X.xe { s1 with heap := hA } := by
      intro hs cl hk
      induction hk with
      | nil =>
        intro w
        refine wpAny_handleBy_nil ?_
        obtain ⟨k1, k2, k3, oe, vs, T, oT, ts', he, hz, hd, h1, hr⟩ := id fA
        unfold PySem.passOn
        refine wpAny_bind (wpAny_field he hd h1 ?_)
        rw [if_neg (show ¬ ((Value.ref T == Value.none) = true) from by simp)]
        have fin : wpAny (model X.prog X.w) X.A (setFlight (.ref a) X.env.frame) (fun _ s4 => wpAny (model X.prog X.w) X.A (throw (.ref a) : Sem Flow) (SP X pins D) X.xe s4) X.xe { s1 with heap := hA } := by
          rw [hfr]
          exact HandSPX.setFlight_upZ fA fun h4 g4 u4 => wpAny_throw (tk _ _ ⟨a, B, sI, pins, σ1, H1, cls, d, rfl, J, nb, (up.trans uA).trans u4, .inr (.inr (hst.symm ▸ g4)), na, os, ag, w⟩)
        first | exact wpAny_bind (wpAny_pure (wpAny_bind fin)) | exact wpAny_bind fin
      | @one x c o n ts b bs p q hs2 l2 hc hn hbs r ih =>
        rintro ⟨m, hm, yes, no⟩
        refine wpAny_handleBy_cons (codeAny_handlers_test ?_) (fun z => by cases z)
        have ty : PySem.W.Looks (model X.prog X.w) hA (typeOf (.ref a)) cls := fun _ _ _ _ k z => wpAny_typeOf_ref (k _ _ gA) (zA.1.symm ▸ z)
        have ask := PySem.W.exm_one (M := model X.prog X.w) JA.kIn ty hm
        have nm : ∀ {Q : Value → Shared → Prop} {E : Value → Shared → Prop}, Q c { s1 with heap := hA } → wpAny (model X.prog X.w) (X.A.mark (some (.ref a))) (eval (.Name x p) X.env) Q E { s1 with heap := hA } := fun {Q E} z => by
          obtain ⟨g1, g2, g3 | ⟨g3, g4, g5⟩⟩ := hc
          · exact ld_glob (X := X.suite a ((a, oA) :: (X.pn ++ pins))) SA g1 g3 z g2
          · exact ld_blt (X := X.suite a ((a, oA) :: (X.pn ++ pins))) SA g1 g3 g4 z g5 g2
        refine nm (ask.here ?_)
        cases m with
        | false => exact ih (no rfl)
        | true =>
          have y := yes rfl a na
          rcases hn with ⟨rfl, rfl⟩ | ⟨i, z, rfl, rfl, hi, hz⟩
          · refine codeAny_handlers_suite (HandSPX.lands_againZ fA fun h4 f4 u4 => ?_)
            have J4 : Inv X pins σ1 H1 { s1 with heap := h4 } := J.landed nb f4.1 ((up.trans uA).trans u4) os ag
            obtain ⟨o4, v4, g4, z4, d4⟩ := f4.there
            refine wpAny_mono ((hbs a o4 cls d (X.pn ++ pins) z4 ⟨_, d4⟩).run [] _ _ H1 _ (J4.suite g4 d4 na aL aF) y) (fun f s6 e6 => ?_) (fun _ _ z => False.elim z)
            cases f with
            | next => exact e6.elim fun _ e6 => e6.elim fun _ e6 => ⟨_, _, e6.1.unsuite ok, e6.2⟩
            | brk => exact e6.elim fun _ e6 => e6.elim fun _ e6 => ⟨_, _, e6.1.unsuite ok, e6.2⟩
            | cont => exact e6.elim fun _ e6 => e6.elim fun _ e6 => ⟨_, _, e6.1.unsuite ok, e6.2⟩
            | ret u =>
              obtain ⟨v6, σ6, H6, S6, r6, q6⟩ := e6
              exact ⟨_, _, _, S6.unsuite ok, r6, q6⟩
          · refine codeAny_handlers_suite_as (HandSPX.lands_againZ fA fun h4 f4 u4 => ?_)
            have J4 : Inv X pins σ1 H1 { s1 with heap := h4 } := J.landed nb f4.1 ((up.trans uA).trans u4) os ag
            obtain ⟨o4, v4, g4, z4, d4⟩ := f4.there
            refine store_ok (X := X.suite a ((a, o4) :: (X.pn ++ pins))) (v := .ref a) (J4.suite g4 d4 na aL aF) hN hi (.inl hz) rfl (fun s5 S5 => ?_) (.inr hz)
            refine wpAny_mono ((hbs a o4 cls d (X.pn ++ pins) z4 ⟨_, d4⟩).run [] s5 _ H1 _ S5 y) (fun f s6 e6 => ?_) (fun _ _ z => False.elim z)
            have bye : ∀ {σ6 : L2.St} {H6 : Hp} {Q : Shared → Prop}, Inv (X.suite a ((a, o4) :: (X.pn ++ pins))) [] σ6 H6 s6 → (∀ s7, Inv X pins (σ6.set i none) H6 s7 → Q s7) → wpAny (model X.prog X.w) X.A (do bindName X.env z .none; unbindBehindTheSuite X.env z q) (fun _ s7 => Q s7) X.xe s6 :=
              fun {σ6 H6 Q} S6 k => gone_ok (S6.unsuite ok) hN hi hz k
            cases f with
            | next =>
              obtain ⟨σ6, H6, S6, q6⟩ := e6
              exact bye S6 fun s7 J7 => ⟨_, _, J7, q6⟩
            | brk =>
              obtain ⟨σ6, H6, S6, q6⟩ := e6
              exact bye S6 fun s7 J7 => ⟨_, _, J7, q6⟩
            | cont =>
              obtain ⟨σ6, H6, S6, q6⟩ := e6
              exact bye S6 fun s7 J7 => ⟨_, _, J7, q6⟩
            | ret u =>
              obtain ⟨v6, σ6, H6, S6, r6, q6⟩ := e6
              exact bye S6 fun s7 J7 => ⟨_, _, _, J7, r6, q6⟩
    exact go hh w
  refine wpAny_mono ((hb _ _ caught tk2 PassesOwn.looking).run [] s σ H D (I.toTry _) h) (fun f s1 e1 => ?_) (fun _ _ z => z)
  cases f with
  | next => exact e1.elim fun _ e1 => e1.elim fun _ e1 => wpAny_execs_nil ⟨_, _, e1.1.ofTry ok, e1.2⟩
  | brk => exact e1.elim fun _ e1 => e1.elim fun _ e1 => ⟨_, _, e1.1.ofTry ok, e1.2⟩
  | cont => exact e1.elim fun _ e1 => e1.elim fun _ e1 => ⟨_, _, e1.1.ofTry ok, e1.2⟩
  | ret u =>
    obtain ⟨v, τ, G, J, r, q⟩ := e1
    exact ⟨v, τ, G, J.ofTry ok, r, q⟩
end
end TL
end
section
set_option Elab.async false
set_option Elab.async false
set_option linter.all false
set_option autoImplicit false
set_option maxRecDepth 100000
set_option maxHeartbeats 4000000
namespace TL
open PySem PySem.Spec L2
section
variable {X : Cx} {x n : Str} {C : Addr} {i : Nat} {b : Stmt} {bs : List Stmt} {p q : PySem.Pos} {hs : List ExceptHandler} {l : List Cl}
theorem cl_as {ts : Addr → Option Addr → TS} (hc : Names X x (.ref C)) (hi : X.N[i]? = some n) (hln : X.env.kindOf n = some .local)
    (hb : ∀ (a : Addr) (oe : Obj) (d : Option Addr) (pn : List (Addr × Obj)), Zc (.ref C) d oe → (∃ vs, oe.data = .fields vs) → PSs (X.suite a ((a, oe) :: pn)) (b :: bs) (ts a d)) (r : ClsM X hs l) :
    ClsM X (.ExceptHandler (some (.Name x p)) (some n) (b :: bs) q :: hs) ((.ref C, some i, fun a cls d => tOfC C cls (ts a d)) :: l) :=
  .one hc (.inr ⟨i, n, rfl, rfl, hi, hln⟩) (fun a oe cls d pn hz hv => ⟨fun pins s σ H D I ⟨e, h⟩ => by
    subst e
    exact (hb a oe d pn hz hv).run pins s σ H D I h⟩) r
theorem cl_no {ts : TS} (hc : Names X x (.ref C)) (hb : ∀ (a : Addr) (oe : Obj) (cls : Value) (d : Option Addr) (pn : List (Addr × Obj)), Zc cls d oe → (∃ vs, oe.data = .fields vs) → PSs (X.suite a ((a, oe) :: pn)) (b :: bs) ts) (r : ClsM X hs l) :
    ClsM X (.ExceptHandler (some (.Name x p)) none (b :: bs) q :: hs) ((.ref C, none, fun _ _ _ => ts) :: l) := .one hc (.inl ⟨rfl, rfl⟩) hb r
end
section
variable {Γ : Gm} {E : XW} {ms : List Md} {rr : RC}
def ClS (Γ : Gm) (E : XW) (ms : List Md) (rr : RC) (cs : List Str) : List Cl → List (Str × Option Nat × M Ctl) → Prop
  | [], [] => True
  | (v, o, ts) :: l, (c, o', h) :: hs => v = .ref (Γ.cl c) ∧ o = o' ∧ (c == PySem.Str.ofString "SlipError") = false ∧ (∀ a ∈ cs, PySem.W.exmOne Γ.K (.ref (Γ.cl a)) (.ref (Γ.cl c)) = some (exSub a c)) ∧ (match o with
    | none => ∀ a cls d, SimS Γ E ms rr (ts a cls d) h
    | some i => ms[i]? = some (.own 0) ∧ ∀ a cls d, cls = .ref (Γ.cl c) → SimS Γ E (ms.set i (.ex a d)) rr (ts a cls d) h) ∧ ClS Γ E ms rr cs l hs
  | _, _ => False
theorem cls_nil {cs : List Str} : ClS Γ E ms rr cs [] [] := True.intro
theorem cls_as {cs : List Str} {c : Str} {i : Nat} {ts : Addr → Option Addr → TS} {h : M Ctl} {l : List Cl} {hs : List (Str × Option Nat × M Ctl)} (hl : (c == PySem.Str.ofString "SlipError") = false) (hx : ∀ a ∈ cs, PySem.W.exmOne Γ.K (.ref (Γ.cl a)) (.ref (Γ.cl c)) = some (exSub a c)) (hm : ms[i]? = some (.own 0))
    (hb : ∀ a d, SimS Γ E (ms.set i (.ex a d)) rr (ts a d) h) (r : ClS Γ E ms rr cs l hs) : ClS Γ E ms rr cs ((.ref (Γ.cl c), some i, fun a cls d => tOfC (Γ.cl c) cls (ts a d)) :: l) ((c, some i, h) :: hs) :=
  ⟨rfl, rfl, hl, hx, ⟨hm, fun a cls d e W τ σ k D hF hp => ⟨e, hb a d W τ σ k D hF hp⟩⟩, r⟩
theorem cls_no {cs : List Str} {c : Str} {ts : TS} {h : M Ctl} {l : List Cl} {hs : List (Str × Option Nat × M Ctl)} (hl : (c == PySem.Str.ofString "SlipError") = false) (hx : ∀ a ∈ cs, PySem.W.exmOne Γ.K (.ref (Γ.cl a)) (.ref (Γ.cl c)) = some (exSub a c))
    (hb : SimS Γ E ms rr ts h) (r : ClS Γ E ms rr cs l hs) : ClS Γ E ms rr cs ((.ref (Γ.cl c), none, fun _ _ _ => ts) :: l) ((c, none, h) :: hs) :=
  ⟨rfl, rfl, hl, hx, fun _ _ _ => hb, r⟩
def tTryM (K : PySem.W.Frag) (tb : WX → TS) (l : List Cl) (E : XW) : TS := fun D σ H => tb (wMix K (wx E) D l) D σ H
theorem cls_go {cs : List Str} (hr : Back rr) {W : Wd} {σ : L2.St} {hs' : List Slot} {D : Ends} {x : Exn} {τ1 : Tau} (hxc : x.c ∈ cs) : ∀ {l : List Cl} {hs : List (Str × Option Nat × M Ctl)}, ClS Γ E ms rr cs l hs → PstS Γ E ms rr W σ hs' D (sHand hs x τ1) →
    ∀ W' σ' cls d, Nx ms W σ W' σ' → FrS Γ W' ms τ1 σ' hs' → RepX Γ W' x cls d → wMix Γ.K (wx E) D l cls d σ' W'.H
  | [], [], _, hp, W', σ', cls, d, nx, hF', hxr => hp W' σ' cls d nx hF' hxr
  | (v, o, ts) :: l, (c, o', h) :: hs, ⟨e1, e2, hleaf, hx, hb, r⟩, hp, W', σ', cls, d, nx, hF', hxr => by
    subst e1 e2
    have hcls := hxr.1
    refine ⟨exSub x.c c, by rw [hcls]; exact hx _ hxc, fun hyes a ha => ?_, fun hno => ?_⟩
    · have ec : x.c = c := by
        unfold exSub at hyes
        rw [Bool.or_eq_true, decide_eq_true_eq, decide_eq_true_eq] at hyes
        rcases hyes with e | e
        · exact e
        · rw [e] at hleaf; simp at hleaf
      cases o with
      | none =>
        have hp2 : PstS Γ E ms rr W σ hs' D (sAs0 h τ1) := by
          have e : sHand ((c, none, h) :: hs) x τ1 = sAs0 h τ1 := by
            conv => lhs; unfold sHand
            rw [if_pos hyes]
          rwa [e] at hp
        have hp3 := hp2.le nx
        refine hb a cls d W' τ1 σ' hs' D hF' ?_
        unfold sAs0 at hp3
        cases hh : h τ1 with
        | stuck => rw [hh] at hp3; exact hp3
        | exc y τ2 => rw [hh] at hp3; exact hp3.elim
        | ok k τ2 => rw [hh] at hp3; cases k <;> exact hp3
      | some i =>
        obtain ⟨hi, hb⟩ := hb
        have hp2 : PstS Γ E ms rr W σ hs' D (sAs i x h τ1) := by
          have e : sHand ((c, some i, h) :: hs) x τ1 = sAs i x h τ1 := by
            conv => lhs; unfold sHand
            rw [if_pos hyes]
          rwa [e] at hp
        have hp3 := hp2.le nx
        refine hb a cls d (by rw [hcls, ec]) W' _ _ hs' _ (hF'.toex hi hxr) ?_
        unfold sAs at hp3
        cases hh : h (τ1.set i (some (.ins x.c x.fs))) with
        | stuck => rw [hh] at hp3; exact hp3
        | exc y τ2 => rw [hh] at hp3; exact hp3.elim
        | ok k τ2 =>
          rw [hh] at hp3
          cases k with
          | nx => exact fun W2 σ2 n2 f2 => hp3 W2 _ (n2.unex hi) (f2.unex hi)
          | bk => exact fun W2 σ2 n2 f2 => hp3 W2 _ (n2.unex hi) (f2.unex hi)
          | ct => exact fun W2 σ2 n2 f2 => hp3 W2 _ (n2.unex hi) (f2.unex hi)
          | rt w =>
            intro W2 σ2 v n2 h2
            refine hp3 W2 _ v (n2.unex hi) ?_
            cases rr with
            | now => exact hr.elim
            | sh => exact hr.elim
            | slot j => exact hr.elim
            | fz => exact ⟨h2.1.unex hi, h2.2⟩
            | own n =>
              have h3 : FrS Γ W2 (ms.set i (.ex a d)) τ2 σ2 (hs' ++ [(.own n, some w, some v)]) := h2
              exact h3.unex hi
    · have hp2 : PstS Γ E ms rr W σ hs' D (sHand hs x τ1) := by
        have e : sHand ((c, o, h) :: hs) x τ1 = sHand hs x τ1 := by
          conv => lhs; unfold sHand
          rw [if_neg (by rw [hno]; exact Bool.false_ne_true)]
        rwa [e] at hp
      exact cls_go hr hxc r hp2 W' σ' cls d nx hF' hxr
  | [], _ :: _, h, _, _, _, _, _, _, _, _ => h.elim
  | _ :: _, [], h, _, _, _, _, _, _, _, _ => h.elim
theorem sim_try {cs : List Str} {tb : WX → TS} {b : M Ctl} {l : List Cl} {hs : List (Str × Option Nat × M Ctl)} (hb : ∀ W : WX, SimS Γ (xw W) ms rr (tb W) b) (hl : ClS Γ E ms rr cs l hs) (hr : Back rr) : SimS Γ E ms rr (tTryM Γ.K tb l E) (sTry cs b hs) := by
  intro W τ σ hs' D hF hp
  refine hb _ W τ σ hs' D hF ?_
  unfold sTry at hp
  cases hbt : b τ with
  | stuck => rw [hbt] at hp; exact hp
  | ok k τ1 => rw [hbt] at hp; cases k <;> exact hp
  | exc x τ1 =>
    rw [hbt] at hp
    dsimp only at hp
    by_cases hxc : x.c ∈ cs
    · rw [if_pos hxc] at hp
      exact cls_go hr hxc hl hp
    · rw [if_neg hxc] at hp
      exact hp.elim
end
section
variable {P : Program} {w : World} {K : PySem.W.Frag} {mg : Str → Option Value} {base : Heap} {k : Nat} {nm qual : Str} {st : Stmt} {f : Addr} {fd : FuncData} {N ps : List Str} {Γ : Gm} {pms : List Md} {rr : RC} {m : List T → RE T}
theorem fmTX (F : L2.Fun K nm qual st f fd) (S : FnScope N ps (defScope st)) (hl : ps.length = pms.length)
    (hb : ∀ (cdv : Value) (A : Around) (outer : List Env) (s : Shared) (H : Hp) (Q : VK) (E : XK) (vs : List V), Room k (A.deeper (PyProof.Rows.envOfC qual (defScope st) s.heap.objs.size f cdv)) → spT Γ pms rr m vs H Q E →
      ∃ t, PSs (cxOf (L2.CX P w) P w K mg base N qual (defScope st) f cdv A outer s H E) (defBody st) t ∧ t { nx := fun _ H' => Q .non H', rt := Q } (L2.start N vs) H) : FnOk P w K mg base (L2.CX P w) (k + 1) f fd ps (spT Γ pms rr m) := by
  refine F.okX S ?_ ?_
  · rintro vs H Q E ⟨_, _, _, h, _⟩; rw [h, hl]
  · intro cdv A outer s H vs Q E hr h; exact hb cdv A outer s H Q E vs hr h
theorem calTX (F : L2.Fun K nm nm st f fd) (g : mg nm = some (.ref f)) (S : FnScope N ps (defScope st)) (bd : Binds K fd ps []) (hl : ps.length = pms.length)
    (hb : ∀ (cdv : Value) (A : Around) (outer : List Env) (s : Shared) (H : Hp) (Q : VK) (E : XK) (vs : List V), Room k (A.deeper (PyProof.Rows.envOfC nm (defScope st) s.heap.objs.size f cdv)) → spT Γ pms rr m vs H Q E →
      ∃ t, PSs (cxOf (L2.CX P w) P w K mg base N nm (defScope st) f cdv A outer s H E) (defBody st) t ∧ t { nx := fun _ H' => Q .non H', rt := Q } (L2.start N vs) H) : CalX P w K mg base (k + 1) nm (spT Γ pms rr m) :=
  ⟨f, fd, ps, fmTX F S hl hb, g, F.kp, bd⟩
theorem CalX.mono {j : Nat} {sp : Sp} (c : CalX P w K mg base j nm sp) (h : j ≤ k) : CalX P w K mg base k nm sp := by
  obtain ⟨f, fd, ps, F, g, kp, b⟩ := c.ex
  exact ⟨f, fd, ps, F.mono h, g, kp, b⟩
end
end TL
end
section
set_option Elab.async false
set_option Elab.async false
set_option linter.all false
set_option autoImplicit false
set_option maxRecDepth 100000
set_option maxHeartbeats 4000000
namespace TL
open PySem PySem.Spec PyProof.Rows L2
structure Xs (P : Program) (K : PySem.W.Frag) (mg : Str → Option Value) (ga : Str → Addr) (cls : List (Str × List Str)) (hs : List Str) (iss : List (Str × Str)) : Prop where
  e : ∀ q ∈ cls, q.2 ≠ [] → ExK P K mg (ga q.1) q.2
  e0 : ∀ q ∈ cls, q.2 = [] → Ex0 K (ga q.1)
  xf : ∀ q ∈ cls, XfC K (ga q.1)
  xc : ∀ q ∈ cls, ExcC K (ga q.1)
  no : ∀ q ∈ cls, ∀ f ∈ q.2, PySem.W.findIn K (.ref (ga q.1)) f = some none
  xm : ∀ c ∈ hs, ∀ a ∈ cls.map (·.1), PySem.W.exmOne K (.ref (ga a)) (.ref (ga c)) = some (exSub a c)
  kt : ∀ q ∈ iss, PySem.W.kitOne K (.ref (ga q.1)) (isV ga q.2) = some (exSub q.1 q.2 || decide (q.2 = VE))
  g : ∀ a ∈ cls.map (·.1) ++ iss.map (·.2), a ≠ VE → mg a = some (.ref (ga a))
theorem xc_of {K : PySem.W.Frag} {D : Addr} (h : xcB K D = true) : ExcC K D := by
  unfold xcB at h
  simp only [Bool.and_eq_true, decide_eq_true_eq] at h
  obtain ⟨h1, h2, h3, h4, h5, h6, h7, h8⟩ := h
  exact ⟨h1, h2, h3, h4, h5, h6, h7, h8⟩
theorem xs_of {P : Program} {K : PySem.W.Frag} {mg : Str → Option Value} {ga : Str → Addr} {cls : List (Str × List Str)} {hs : List Str} {iss : List (Str × Str)} {file : Str} (h : xsB file K ga cls hs iss = true) (hP : supP file P = true) (hm : mg "super" = none) (hbd : ∀ q ∈ cls, q.2 ≠ [] → BdF q.2)
    (hg : ∀ a ∈ cls.map (·.1) ++ iss.map (·.2), a ≠ VE → mg a = some (.ref (ga a))) : Xs P K mg ga cls hs iss := by
  unfold xsB at h
  simp only [Bool.and_eq_true, List.all_eq_true, beq_iff_eq] at h
  obtain ⟨h1, h2, h3⟩ := h
  have ek : ∀ q ∈ cls, q.2 ≠ [] → ExK P K mg (ga q.1) q.2 := fun q hq hn => by
    have := (h1 q hq).1
    rw [if_neg hn] at this
    exact exk_of this hP hm (hbd q hq hn)
  refine ⟨ek, fun q hq hn => ?_, fun q hq => xfB_ok (h1 q hq).2.1, fun q hq => xc_of (h1 q hq).2.2, fun q hq f hf => (ek q hq (List.ne_nil_of_mem hf)).no f hf, h2, h3, hg⟩
  have := (h1 q hq).1
  rw [if_pos hn] at this
  exact ex0_of this
section
variable {X : Cx} {k : Nat} {a : Addr} {pn : List (Addr × Obj)}
theorem su64 (r : Room k X.A) : (X.suite a pn).A.units + 64 < cLine := by have h := uu64 r; exact h
end
section
variable {X : Cx} {body : List Stmt} {h0 : ExceptHandler} {hds : List ExceptHandler} {l : List Cl} {pos : PySem.Pos} {tb : WX → TS} {E : XW}
theorem ps_try (hst : X.stack = X.env :: X.outer) (hfr : X.env.frame = some X.env.locals) (hN : X.N.Nodup) (tk : Takes X (wx E))
    (hb : ∀ (W : WX) (pn : List (Addr × Obj)) (xe : Value → Shared → Prop), Takes (X.tr pn xe) W → PassesOwn (model X.prog X.w) X.A X.env xe → PSs (X.tr pn xe) body (tb W))
    (hh : ClsM X (h0 :: hds) l) : PS X (.Try body (h0 :: hds) [] [] pos) (tTryM X.K tb l E) := ps_tryM hst hfr hN tk hb hh
theorem tk0 {X : Cx} : Takes X (wx E0) := takes0
end
end TL
end
section
set_option Elab.async false
set_option Elab.async false
set_option linter.all false
set_option autoImplicit false
set_option maxRecDepth 100000
set_option maxHeartbeats 4000000
namespace TL
open PySem PySem.Spec L2
end TL
end
section
set_option Elab.async false
set_option Elab.async false
set_option linter.all false
set_option autoImplicit false
set_option maxRecDepth 100000
set_option maxHeartbeats 4000000
namespace TL
open PySem PySem.Spec L2
end TL
end
section
set_option Elab.async false
set_option Elab.async false
set_option linter.all false
set_option autoImplicit false
set_option maxRecDepth 100000
set_option maxHeartbeats 4000000
namespace My
open PySem PySem.Spec L2 TL
abbrev gm (K : PySem.W.Frag) (w : World) : TL.Gm := ⟨K, He.ga K, w⟩
structure Bs (K : PySem.W.Frag) (mg : Str → Option Value) : Prop where
  b_ValueError : mg "ValueError" = none
  b_abs : mg "abs" = none
  b_bool : mg "bool" = none
  b_enumerate : mg "enumerate" = none
  b_int : mg "int" = none
  b_isinstance : mg "isinstance" = none
  b_len : mg "len" = none
  b_list : mg "list" = none
  b_range : mg "range" = none
  b_str : mg "str" = none
  b_super : mg "super" = none
  b_tuple : mg "tuple" = none
  x_LETTERS : ∃ u, mg "LETTERS" = some u ∧ RelV (.str "abcdefghijklmnopqrstuvwxyz") u
  x_MOST_EDITS : ∃ u, mg "MOST_EDITS" = some u ∧ RelV (.int 5000) u
  x_MOST_TURNED : ∃ u, mg "MOST_TURNED" = some u ∧ RelV (.int 5000) u
section
variable {P : Program} {K : PySem.W.Frag} {mg : Str → Option Value}
theorem xe_BadScript (Y : TL.Xs P K mg (He.ga K) clsX hsX issX) : ExK P K mg (He.ga K "BadScript") [(PySem.Str.ofString "place")] := Y.e ((PySem.Str.ofString "BadScript"), [(PySem.Str.ofString "place")]) (by simp [clsX]) (by simp)
theorem xf_BadScript (Y : TL.Xs P K mg (He.ga K) clsX hsX issX) : XfC K (He.ga K "BadScript") := Y.xf ((PySem.Str.ofString "BadScript"), [(PySem.Str.ofString "place")]) (by simp [clsX])
theorem xc_BadScript (Y : TL.Xs P K mg (He.ga K) clsX hsX issX) : ExcC K (He.ga K "BadScript") := Y.xc ((PySem.Str.ofString "BadScript"), [(PySem.Str.ofString "place")]) (by simp [clsX])
theorem xn_BadScript_place (Y : TL.Xs P K mg (He.ga K) clsX hsX issX) : PySem.W.findIn K (.ref (He.ga K "BadScript")) "place" = some none := Y.no ((PySem.Str.ofString "BadScript"), [(PySem.Str.ofString "place")]) (by simp [clsX]) (PySem.Str.ofString "place") (by simp)
theorem xm_BadScript (Y : TL.Xs P K mg (He.ga K) clsX hsX issX) : ∀ a ∈ csX, PySem.W.exmOne K (.ref (He.ga K a)) (.ref (He.ga K "BadScript")) = some (exSub a "BadScript") := Y.xm "BadScript" (by simp [hsX])
theorem x0_NoNumber (Y : TL.Xs P K mg (He.ga K) clsX hsX issX) : Ex0 K (He.ga K "NoNumber") := Y.e0 ((PySem.Str.ofString "NoNumber"), []) (by simp [clsX]) rfl
theorem xm_NoNumber (Y : TL.Xs P K mg (He.ga K) clsX hsX issX) : ∀ a ∈ csX, PySem.W.exmOne K (.ref (He.ga K a)) (.ref (He.ga K "NoNumber")) = some (exSub a "NoNumber") := Y.xm "NoNumber" (by simp [hsX])
theorem xg_BadScript (Y : TL.Xs P K mg (He.ga K) clsX hsX issX) : mg "BadScript" = some (.ref (He.ga K "BadScript")) := Y.g "BadScript" (by simp [clsX, issX]) (by decide +kernel)
theorem xg_NoNumber (Y : TL.Xs P K mg (He.ga K) clsX hsX issX) : mg "NoNumber" = some (.ref (He.ga K "NoNumber")) := Y.g "NoNumber" (by simp [clsX, issX]) (by decide +kernel)
theorem xg_SlipError (Y : TL.Xs P K mg (He.ga K) clsX hsX issX) : mg "SlipError" = some (.ref (He.ga K "SlipError")) := Y.g "SlipError" (by simp [clsX, issX]) (by decide +kernel)
theorem xg_NoRow (Y : TL.Xs P K mg (He.ga K) clsX hsX issX) : mg "NoRow" = some (.ref (He.ga K "NoRow")) := Y.g "NoRow" (by simp [clsX, issX]) (by decide +kernel)
theorem kt_BadScript_SlipError (Y : TL.Xs P K mg (He.ga K) clsX hsX issX) : PySem.W.kitOne K (.ref (He.ga K "BadScript")) (.ref (He.ga K "SlipError")) = some (exSub "BadScript" "SlipError" || decide (((PySem.Str.ofString "SlipError") : Str) = PySem.Str.ofString "ValueError")) := Y.kt ((PySem.Str.ofString "BadScript"), (PySem.Str.ofString "SlipError")) (by simp [issX])
theorem kt_BadScript_ValueError (Y : TL.Xs P K mg (He.ga K) clsX hsX issX) : PySem.W.kitOne K (.ref (He.ga K "BadScript")) (.type "ValueError") = some (exSub "BadScript" "ValueError" || decide (((PySem.Str.ofString "ValueError") : Str) = PySem.Str.ofString "ValueError")) := Y.kt ((PySem.Str.ofString "BadScript"), (PySem.Str.ofString "ValueError")) (by simp [issX])
theorem kt_BadScript_NoRow (Y : TL.Xs P K mg (He.ga K) clsX hsX issX) : PySem.W.kitOne K (.ref (He.ga K "BadScript")) (.ref (He.ga K "NoRow")) = some (exSub "BadScript" "NoRow" || decide (((PySem.Str.ofString "NoRow") : Str) = PySem.Str.ofString "ValueError")) := Y.kt ((PySem.Str.ofString "BadScript"), (PySem.Str.ofString "NoRow")) (by simp [issX])
theorem kt_BadScript_NoNumber (Y : TL.Xs P K mg (He.ga K) clsX hsX issX) : PySem.W.kitOne K (.ref (He.ga K "BadScript")) (.ref (He.ga K "NoNumber")) = some (exSub "BadScript" "NoNumber" || decide (((PySem.Str.ofString "NoNumber") : Str) = PySem.Str.ofString "ValueError")) := Y.kt ((PySem.Str.ofString "BadScript"), (PySem.Str.ofString "NoNumber")) (by simp [issX])
end
section
variable {P : Program} {w : World} {K : PySem.W.Frag} {mg : Str → Option Value} {base : Heap}
theorem ok__law_purse {f : Addr} {fd : FuncData} {k : Nat} (F : L2.Fun K "_law_purse" "_law_purse" s__law_purse f fd) (g : mg "_law_purse" = some (.ref f)) (B : Bs K mg)  : C8.Cal P w K mg base (k + 1) "_law_purse" (spT (gm K w) [.sh] ((.own 2)) f__law_purse) [] := by
  refine calT F g sc__law_purse (F.binds (ps := P__law_purse) fun _ _ _ _ _ _ us hl => match us, hl with | [_], _ => rfl) rfl fun cdv A outer s H Q E vs hr h => ?_
  refine ⟨_, (pss_cons (ps_setLc (i := 1) (own := [("_law_cell", 4)]) rfl sc__law_purse.nd rfl rfl (sw_true rfl rfl rfl (by decide +kernel)) (piU (Γ := gm K w) rfl rfl (pe_slice (k_slq K) (pv 0) po_none (po_some pe_int))) (blkOk_by (own := [("_law_cell", 4)]) (N := N__law_purse) (sc := defScope s__law_purse) (by decide +kernel)) (fun _ _ _ _ _ => (pg_name (i := 4) sc__law_purse.nd rfl (.inl rfl))) (fun _ _ _ _ _ => pts_nil) (fun _ _ _ _ _ => (pe_callTy c_int1 rfl B.b_int (by decide +kernel) (pa_cons (pv 4) pa_nil))))
      (pss_cons (ps_if (pt_cmpR (opU_eq (Γ := gm K w) rfl (uu64 hr)) (pe_callB (lenU (Γ := gm K w) rfl) rfl B.b_len (by decide +kernel) (pa_cons (pv 1) pa_nil)) pe_int (by rfl)) (pss_one (ps_set (i := 1) sc__law_purse.nd rfl (.inl rfl) (pe_lst (pa_cons pe_int pa_nil)))) pss_nil)
      (pss_cons (ps_setLc (i := 2) (own := [("_law_cell", 4)]) rfl sc__law_purse.nd rfl rfl (sw_true rfl rfl rfl (by decide +kernel)) (piU (Γ := gm K w) rfl rfl (pv 1)) (blkOk_by (own := [("_law_cell", 4)]) (N := N__law_purse) (sc := defScope s__law_purse) (by decide +kernel)) (fun _ _ _ _ _ => (pg_name (i := 4) sc__law_purse.nd rfl (.inl rfl))) (fun _ _ _ _ _ => pts_nil) (fun _ _ _ _ _ => (pe_callB c_abs rfl B.b_abs (by decide +kernel) (pa_cons (pv 4) pa_nil))))
      (pss_cons (ps_for PassesOwn.never rfl (pi_range1 rfl B.b_range (pa_cons (pe_callB (lenU (Γ := gm K w) rfl) rfl B.b_len (by decide +kernel) (pa_cons (pv 2) pa_nil)) pa_nil)) (pg_name (i := 3) sc__law_purse.nd rfl (.inl rfl))
      (pss_one (ps_if (pt_cmpR op_lt (pe_ix (ixU (Γ := gm K w) (uu9 hr) rfl rfl) (pv 2) (pv 3) (fun _ _ => rfl)) (pe_op op_pow pe_int pe_int) (by rfl)) (pss_one (ps_asg pe_int (pg_sub (pv 2) (pv 3) (setU (Γ := gm K w) (uu9 hr) rfl rfl)))) pss_nil)))
      (pss_one (ps_ret (pe_lst (pa_cons (pv 1) (pa_cons (pv 2) (pa_cons pe_int pa_nil)))))))))), ?_⟩
  exact body_sim (Γ := gm K w) (pms := [.sh]) (lms := [(.own 1), (.own 1), (.own 0), (.own 0)]) (rr := (.own 2)) (s := st__law_purse) (sim_seq (sim_set (sim_lc (by decide) (sim_iU (SimE.frz (sim_sl_imm (sim_var (r := .sh) rfl True.intro (fun _ h => nomatch h)) sim_nopart (sim_part (sim_c Rep0.int)) True.intro)) (.inr rfl)) (sim_gvname (by decide) rfl True.intro (.inr rfl)) put_ne sim_yes (SimE.fz0 (sim_cb callS_int (sim_cons (sim_var (r := .fz) rfl True.intro (fun _ h => nomatch h)) sim_nil True.intro) True.intro))) rfl rfl)
      (sim_seq (sim_ifS (sim_test (sim_op opS_eq (sim_cb callS_len (sim_cons (sim_var (r := .now) rfl True.intro (fun _ h => nomatch h)) sim_nil rfl) True.intro) (sim_c Rep0.int) True.intro)) (sim_set (sim_lst (sim_cons (sim_c Rep0.int) sim_nil True.intro) (by simp [All])) rfl rfl) sim_next)
      (sim_seq (sim_set (sim_lcO (n0 := 0) rfl rfl (by decide) (sim_gvname (by decide) rfl True.intro (.inr rfl)) put_ne sim_yes (SimE.fz0 (sim_cb callS_abs (sim_cons (sim_var (r := .fz) rfl True.intro (fun _ h => nomatch h)) sim_nil True.intro) True.intro))) rfl rfl)
      (sim_seq (sim_for (sim_range1 (r := .fz) (sim_cons (sim_cb callS_len (sim_cons (sim_var (r := .now) rfl True.intro (fun _ h => nomatch h)) sim_nil rfl) True.intro) sim_nil True.intro) True.intro) (sim_gname rfl True.intro (.inr rfl)) (sim_ifS (sim_test (sim_op opS_lt (sim_el elS_get (sim_var (r := .now) rfl True.intro (fun _ h => nomatch h)) (sim_var (r := .fz) rfl True.intro (fun _ h => nomatch h)) rfl) (sim_op opS_pow (sim_c Rep0.int) (sim_c Rep0.int) True.intro) rfl)) (sim_set1 rfl rfl rfl (sim_c Rep0.int) (sim_var (r := .fz) rfl True.intro (fun _ h => nomatch h))) sim_next) put_ne)
      (sim_ret (sim_lstO (sim_consO (sim_mv rfl) (sim_consO (sim_mv rfl) (sim_consO (SimE.scal 1 (sim_c Rep0.int)) sim_nilO))))))))) True.intro rfl h
theorem ok__law_draw {f : Addr} {fd : FuncData} {k : Nat} (F : L2.Fun K "_law_draw" "_law_draw" s__law_draw f fd) (g : mg "_law_draw" = some (.ref f)) (B : Bs K mg)  : C8.Cal P w K mg base (k + 1) "_law_draw" (spT (gm K w) [(.lent 2), .sh] (.fz) f__law_draw) [] := by
  refine calT F g sc__law_draw (F.binds (ps := P__law_draw) fun _ _ _ _ _ _ us hl => match us, hl with | [_, _], _ => rfl) rfl fun cdv A outer s H Q E vs hr h => ?_
  refine ⟨_, (pss_cons (ps_asg (pe_op opU_add (pe_ix (ixU (Γ := gm K w) (uu9 hr) rfl rfl) (pv 0) pe_int (fun _ _ => rfl)) pe_int) (pg_sub (pv 0) pe_int (setU (Γ := gm K w) (uu9 hr) rfl rfl)))
      (pss_cons (ps_set (i := 2) sc__law_draw.nd rfl (.inl rfl) (pe_op op_mod (pe_callTy c_int1 rfl B.b_int (by decide +kernel) (pa_cons (pe_ix (ixU (Γ := gm K w) (uu9 hr) rfl rfl) (pv 0) pe_int (fun _ _ => rfl)) pa_nil)) (pe_callB (lenU (Γ := gm K w) rfl) rfl B.b_len (by decide +kernel) (pa_cons (pe_ix (ixU (Γ := gm K w) (uu9 hr) rfl rfl) (pv 0) pe_int (fun _ _ => rfl)) pa_nil))))
      (pss_cons (ps_set (i := 3) sc__law_draw.nd rfl (.inl rfl) (pe_ix (ixU (Γ := gm K w) (uu9 hr) rfl rfl) (pe_ix (ixU (Γ := gm K w) (uu9 hr) rfl rfl) (pv 0) pe_int (fun _ _ => rfl)) (pv 2) (fun _ _ => rfl)))
      (pss_cons (ps_if (pt_cmpR op_gt (pv 3) pe_int (by rfl)) (pss_cons (ps_asg (pe_op op_fdivW (pv 3) (pv 1)) (pg_sub (pe_ix (ixU (Γ := gm K w) (uu9 hr) rfl rfl) (pv 0) pe_int (fun _ _ => rfl)) (pv 2) (setU (Γ := gm K w) (uu9 hr) rfl rfl)))
      (pss_one (ps_ret (pe_op op_mod (pe_callTy c_int1 rfl B.b_int (by decide +kernel) (pa_cons (pv 3) pa_nil)) (pv 1))))) pss_nil)
      (pss_cons (ps_set (i := 4) sc__law_draw.nd rfl (.inl rfl) (pe_op opU_add (pe_op opU_add (pe_op op_mod (pe_callTy c_int1 rfl B.b_int (by decide +kernel) (pa_cons (pe_ix (ixU (Γ := gm K w) (uu9 hr) rfl rfl) (pe_ix (ixU (Γ := gm K w) (uu9 hr) rfl rfl) (pv 0) pe_int (fun _ _ => rfl)) (pv 2) (fun _ _ => rfl)) pa_nil)) pe_int) (pe_op op_mul pe_int (pe_ix (ixU (Γ := gm K w) (uu9 hr) rfl rfl) (pv 0) pe_int (fun _ _ => rfl)))) pe_int))
      (pss_cons (ps_set (i := 4) sc__law_draw.nd rfl (.inl rfl) (pe_op op_mod (pe_callTy c_int1 rfl B.b_int (by decide +kernel) (pa_cons (pe_op op_mul (pv 4) pe_int) pa_nil)) pe_int))
      (pss_cons (ps_set (i := 4) sc__law_draw.nd rfl (.inl rfl) (pe_op op_mod (pe_callTy c_int1 rfl B.b_int (by decide +kernel) (pa_cons (pe_op op_mul (pv 4) (pe_op opU_add (pe_op op_fdivW (pv 4) pe_int) pe_int)) pa_nil)) pe_int))
      (pss_cons (ps_set (i := 4) sc__law_draw.nd rfl (.inl rfl) (pe_op op_mod (pe_callTy c_int1 rfl B.b_int (by decide +kernel) (pa_cons (pe_op op_mul (pv 4) (pe_op opU_add (pe_op op_fdivW (pv 4) pe_int) pe_int)) pa_nil)) pe_int))
      (pss_one (ps_ret (pe_op op_mod (pe_callTy c_int1 rfl B.b_int (by decide +kernel) (pa_cons (pe_op op_fdivW (pv 4) pe_int) pa_nil)) (pv 1)))))))))))), ?_⟩
  exact body_sim (Γ := gm K w) (pms := [(.lent 2), .sh]) (lms := [(.own 0), (.own 0), (.own 0)]) (rr := .fz) (s := st__law_draw) (sim_seq (sim_setL rfl rfl (SimE.scal 1 (sim_op opS_add (sim_el elS_get (sim_var (r := .now) rfl True.intro (fun _ h => nomatch h)) (sim_c Rep0.int) rfl) (sim_c Rep0.int) rfl)) (sim_c Rep0.int))
      (sim_seq (sim_set (sim_op opS_mod (sim_cb callS_int (sim_cons (sim_el elS_get (sim_var (r := .now) rfl True.intro (fun _ h => nomatch h)) (sim_c Rep0.int) rfl) sim_nil rfl) True.intro) (sim_cb callS_len (sim_cons (sim_el elS_get (sim_var (r := .now) rfl True.intro (fun _ h => nomatch h)) (sim_c Rep0.int) rfl) sim_nil rfl) True.intro) True.intro) rfl True.intro)
      (sim_seq (sim_set (SimE.imm (sim_el elS_get (sim_el elS_get (sim_var (r := .now) rfl True.intro (fun _ h => nomatch h)) (sim_c Rep0.int) rfl) (sim_var (r := .fz) rfl True.intro (fun _ h => nomatch h)) rfl)) rfl True.intro)
      (sim_seq (sim_ifS (sim_test (sim_op opS_gt (sim_var (r := .fz) rfl True.intro (fun _ h => nomatch h)) (sim_c Rep0.int) True.intro)) (sim_seq (sim_set2 rfl rfl (SimE.fz0 (sim_op opS_div (sim_var (r := .fz) rfl True.intro (fun _ h => nomatch h)) (sim_var (r := .sh) rfl True.intro (fun _ h => nomatch h)) True.intro)) (sim_c Rep0.int) (sim_var (r := .fz) rfl True.intro (fun _ h => nomatch h)))
      (sim_ret (sim_op opS_mod (sim_cb callS_int (sim_cons (sim_var (r := .fz) rfl True.intro (fun _ h => nomatch h)) sim_nil True.intro) True.intro) (sim_var (r := .sh) rfl True.intro (fun _ h => nomatch h)) True.intro))) sim_next)
      (sim_seq (sim_set (sim_op opS_add (sim_op opS_add (sim_op opS_mod (sim_cb callS_int (sim_cons (sim_el elS_get (sim_el elS_get (sim_var (r := .now) rfl True.intro (fun _ h => nomatch h)) (sim_c Rep0.int) rfl) (sim_var (r := .fz) rfl True.intro (fun _ h => nomatch h)) rfl) sim_nil rfl) True.intro) (sim_c Rep0.int) True.intro) (sim_op opS_mul (sim_c Rep0.int) (sim_el elS_get (sim_var (r := .now) rfl True.intro (fun _ h => nomatch h)) (sim_c Rep0.int) rfl) True.intro) True.intro) (sim_c Rep0.int) True.intro) rfl True.intro)
      (sim_seq (sim_set (sim_op opS_mod (sim_cb callS_int (sim_cons (sim_op opS_mul (sim_var (r := .fz) rfl True.intro (fun _ h => nomatch h)) (sim_c Rep0.int) True.intro) sim_nil True.intro) True.intro) (sim_c Rep0.int) True.intro) rfl True.intro)
      (sim_seq (sim_set (sim_op opS_mod (sim_cb callS_int (sim_cons (sim_op opS_mul (sim_var (r := .fz) rfl True.intro (fun _ h => nomatch h)) (sim_op opS_add (sim_op opS_div (sim_var (r := .fz) rfl True.intro (fun _ h => nomatch h)) (sim_c Rep0.int) True.intro) (sim_c Rep0.int) True.intro) True.intro) sim_nil True.intro) True.intro) (sim_c Rep0.int) True.intro) rfl True.intro)
      (sim_seq (sim_set (sim_op opS_mod (sim_cb callS_int (sim_cons (sim_op opS_mul (sim_var (r := .fz) rfl True.intro (fun _ h => nomatch h)) (sim_op opS_add (sim_op opS_div (sim_var (r := .fz) rfl True.intro (fun _ h => nomatch h)) (sim_c Rep0.int) True.intro) (sim_c Rep0.int) True.intro) True.intro) sim_nil True.intro) True.intro) (sim_c Rep0.int) True.intro) rfl True.intro)
      (sim_ret (sim_op opS_mod (sim_cb callS_int (sim_cons (sim_op opS_div (sim_var (r := .fz) rfl True.intro (fun _ h => nomatch h)) (sim_c Rep0.int) True.intro) sim_nil True.intro) True.intro) (sim_var (r := .sh) rfl True.intro (fun _ h => nomatch h)) True.intro)))))))))) True.intro rfl h
theorem ok__law_name {f : Addr} {fd : FuncData} {k : Nat} (F : L2.Fun K "_law_name" "_law_name" s__law_name f fd) (g : mg "_law_name" = some (.ref f)) (B : Bs K mg) (c__law_draw : C8.Cal P w K mg base k "_law_draw" (spT (gm K w) [(.lent 2), .sh] (.fz) f__law_draw) []) : C8.Cal P w K mg base (k + 1) "_law_name" (spT (gm K w) [(.lent 2)] (.fz) f__law_name) [] := by
  refine calT F g sc__law_name (F.binds (ps := P__law_name) fun _ _ _ _ _ _ us hl => match us, hl with | [_], _ => rfl) rfl fun cdv A outer s H Q E vs hr h => ?_
  refine ⟨_, (pss_cons (ps_set (i := 1) sc__law_name.nd rfl (.inl rfl) pe_str)
      (pss_cons (ps_for PassesOwn.never rfl (pi_range1 rfl B.b_range (pa_cons (pe_op opU_add pe_int (C8.pe_c c__law_draw hr (by omega) rfl (pa_cons (pv 0) (pa_cons pe_int pa_nil)))) pa_nil)) (pg_name (i := 2) sc__law_name.nd rfl (.inl rfl))
      (pss_one (ps_set (i := 1) sc__law_name.nd rfl (.inl rfl) (pe_op opU_add (pv 1) (pe_ix (ixU (Γ := gm K w) (uu9 hr) rfl rfl) pe_str (C8.pe_c c__law_draw hr (by omega) rfl (pa_cons (pv 0) (pa_cons pe_int pa_nil))) (fun _ _ => rfl))))))
      (pss_one (ps_ret (pv 1))))), ?_⟩
  exact body_sim (Γ := gm K w) (pms := [(.lent 2)]) (lms := [(.own 0), (.own 0)]) (rr := .fz) (s := st__law_name) (sim_seq (sim_set (sim_c Rep0.str) rfl True.intro)
      (sim_seq (sim_for (sim_range1 (r := .fz) (sim_cons (sim_op opS_add (sim_c Rep0.int) (sim_callL (rr := .fz) (p1 := []) (p2 := [.sh]) (c1 := []) (c2 := [.fz]) (n := 2) (i := 0) (sim_consS rfl (sim_cons (sim_c Rep0.int) sim_nil True.intro)) rfl rfl rfl rfl (by simp [TL.Args, TL.Arg]) (by simp [TL.Args, TL.Arg]) (noNow_of (by decide)) hlen_of hlen_ex True.intro) True.intro) sim_nil True.intro) True.intro) (sim_gname rfl True.intro (.inr rfl)) (sim_set (sim_op opS_add (sim_var (r := .fz) rfl True.intro (fun _ h => nomatch h)) (sim_el elS_get (sim_c Rep0.str) (sim_callL (rr := .fz) (p1 := []) (p2 := [.sh]) (c1 := []) (c2 := [.fz]) (n := 2) (i := 0) (sim_consS rfl (sim_cons (sim_c Rep0.int) sim_nil True.intro)) rfl rfl rfl rfl (by simp [TL.Args, TL.Arg]) (by simp [TL.Args, TL.Arg]) (noNow_of (by decide)) hlen_of hlen_ex True.intro) True.intro) True.intro) rfl True.intro) put_ne)
      (sim_ret (sim_var (r := .fz) rfl True.intro (fun _ h => nomatch h))))) True.intro rfl h
theorem ok__law_names {f : Addr} {fd : FuncData} {k : Nat} (F : L2.Fun K "_law_names" "_law_names" s__law_names f fd) (g : mg "_law_names" = some (.ref f)) (B : Bs K mg) (c__law_draw : C8.Cal P w K mg base k "_law_draw" (spT (gm K w) [(.lent 2), .sh] (.fz) f__law_draw) []) (c__law_name : C8.Cal P w K mg base k "_law_name" (spT (gm K w) [(.lent 2)] (.fz) f__law_name) []) : C8.Cal P w K mg base (k + 1) "_law_names" (spT (gm K w) [(.lent 2), .sh] (.fz) f__law_names) [] := by
  refine calT F g sc__law_names (F.binds (ps := P__law_names) fun _ _ _ _ _ _ us hl => match us, hl with | [_, _], _ => rfl) rfl fun cdv A outer s H Q E vs hr h => ?_
  refine ⟨_, (pss_cons (ps_set (i := 2) sc__law_names.nd rfl (.inl rfl) (pe_lst (pa_cons pe_str (pa_cons pe_str (pa_cons pe_str (pa_cons pe_str (pa_cons pe_str (pa_cons pe_str (pa_cons pe_str (pa_cons pe_str (pa_cons pe_str (pa_cons pe_str pa_nil))))))))))))
      (pss_cons (ps_set (i := 3) sc__law_names.nd rfl (.inl rfl) (pe_cmpR (opU_eq (Γ := gm K w) rfl (uu64 hr)) (C8.pe_c c__law_draw hr (by omega) rfl (pa_cons (pv 0) (pa_cons pe_int pa_nil))) pe_int (by rfl)))
      (pss_cons (ps_set (i := 4) sc__law_names.nd rfl (.inr rfl) (pe_lst pa_nil))
      (pss_cons (ps_for PassesOwn.never rfl (pi_range1 rfl B.b_range (pa_cons (pv 1) pa_nil)) (pg_name (i := 5) sc__law_names.nd rfl (.inl rfl))
      (pss_cons (ps_set (i := 6) sc__law_names.nd rfl (.inl rfl) (pe_ix (ixU (Γ := gm K w) (uu9 hr) rfl rfl) (pv 2) (C8.pe_c c__law_draw hr (by omega) rfl (pa_cons (pv 0) (pa_cons pe_int pa_nil))) (fun _ _ => rfl)))
      (pss_cons (ps_if (pt_val (pv 3)) (pss_one (ps_set (i := 6) sc__law_names.nd rfl (.inl rfl) (C8.pe_c c__law_name hr (by omega) rfl (pa_cons (pv 0) pa_nil)))) pss_nil)
      (pss_cons (ps_if (pt_cmpR (opU_in (Γ := gm K w) (uu9 hr) rfl rfl) (pv 6) (pv 4) (by rfl)) (pss_one (ps_set (i := 6) sc__law_names.nd rfl (.inl rfl) (pe_ix (ixU (Γ := gm K w) (uu9 hr) rfl rfl) (pe_lc (own := [("_law_each", 7)]) rfl sc__law_names.nd (piU (Γ := gm K w) rfl rfl (pv 2)) (blkOk_by (own := [("_law_each", 7)]) (N := N__law_names) (sc := defScope s__law_names) (by decide +kernel)) (fun _ _ _ _ _ => (pg_name (i := 7) sc__law_names.nd rfl (.inl rfl))) (fun _ _ _ _ _ => (pts_one (pt_cmpR (opU_notIn (Γ := gm K w) (uu9 hr) rfl rfl) (pv 7) (pv 4) (by rfl)))) (fun _ _ _ _ _ => (pv 7))) pe_int (fun _ _ => rfl)))) pss_nil)
      (pss_one (ps_expr (k_bm K PySem.F.plainAttrs_list PySem.F.slot_list_append PySem.F.type_list_append mt_append (pv 4) (pa_cons (pv 6) pa_nil))))))))
      (pss_one (ps_ret (pv 4))))))), ?_⟩
  exact body_sim (Γ := gm K w) (pms := [(.lent 2), .sh]) (lms := [(.own 0), (.own 0), (.own 1), (.own 0), (.own 0), (.own 0)]) (rr := .fz) (s := st__law_names) (sim_seq (sim_set (SimE.frz (sim_lst (sim_cons (sim_c Rep0.str) (sim_cons (sim_c Rep0.str) (sim_cons (sim_c Rep0.str) (sim_cons (sim_c Rep0.str) (sim_cons (sim_c Rep0.str) (sim_cons (sim_c Rep0.str) (sim_cons (sim_c Rep0.str) (sim_cons (sim_c Rep0.str) (sim_cons (sim_c Rep0.str) (sim_cons (sim_c Rep0.str) sim_nil True.intro) True.intro) True.intro) True.intro) True.intro) True.intro) True.intro) True.intro) True.intro) True.intro) (by simp [All]))) rfl True.intro)
      (sim_seq (sim_set (sim_op opS_eq (sim_callL (rr := .fz) (p1 := []) (p2 := [.sh]) (c1 := []) (c2 := [.fz]) (n := 2) (i := 0) (sim_consS rfl (sim_cons (sim_c Rep0.int) sim_nil True.intro)) rfl rfl rfl rfl (by simp [TL.Args, TL.Arg]) (by simp [TL.Args, TL.Arg]) (noNow_of (by decide)) hlen_of hlen_ex True.intro) (sim_c Rep0.int) True.intro) rfl True.intro)
      (sim_seq (sim_set (sim_lst sim_nil (by simp [All])) rfl rfl)
      (sim_seq (sim_for (sim_range1 (r := .fz) (sim_cons (sim_var (r := .sh) rfl True.intro (fun _ h => nomatch h)) sim_nil True.intro) True.intro) (sim_gname rfl True.intro (.inr rfl)) (sim_seq (sim_set (sim_el elS_get (sim_var (r := .fz) rfl True.intro (fun _ h => nomatch h)) (sim_callL (rr := .fz) (p1 := []) (p2 := [.sh]) (c1 := []) (c2 := [.fz]) (n := 2) (i := 0) (sim_consS rfl (sim_cons (sim_c Rep0.int) sim_nil True.intro)) rfl rfl rfl rfl (by simp [TL.Args, TL.Arg]) (by simp [TL.Args, TL.Arg]) (noNow_of (by decide)) hlen_of hlen_ex True.intro) True.intro) rfl True.intro)
      (sim_seq (sim_ifS (sim_tB (sim_var (r := .fz) rfl True.intro (fun _ h => nomatch h))) (sim_set (sim_callL (rr := .fz) (p1 := []) (p2 := []) (c1 := []) (c2 := []) (n := 2) (i := 0) (sim_consS rfl sim_nil) rfl rfl rfl rfl (by simp [TL.Args, TL.Arg]) (by simp [TL.Args, TL.Arg]) (noNow_of (by decide)) hlen_of hlen_ex True.intro) rfl True.intro) sim_next)
      (sim_seq (sim_ifS (sim_test (sim_op opS_in (sim_var (r := .fz) rfl True.intro (fun _ h => nomatch h)) (sim_var (r := .now) rfl True.intro (fun _ h => nomatch h)) True.intro)) (sim_set (sim_el elS_get (SimE.frz (sim_lc (by decide) (sim_iU (sim_var (r := .fz) rfl True.intro (fun _ h => nomatch h)) (.inr rfl)) (sim_gvname (by decide) rfl True.intro (.inr rfl)) put_ne (sim_test (sim_op opS_notIn (sim_var (r := .fz) rfl True.intro (fun _ h => nomatch h)) (sim_var (r := .now) rfl True.intro (fun _ h => nomatch h)) True.intro)) (SimE.fz0 (sim_var (r := .fz) rfl True.intro (fun _ h => nomatch h))))) (sim_c Rep0.int) True.intro) rfl True.intro) sim_next)
      (sim_drop (sim_append rfl rfl (SimE.fz0 (sim_var (r := .fz) rfl True.intro (fun _ h => nomatch h)))))))) put_ne)
      (sim_ret (SimE.frz (sim_mv rfl))))))) True.intro rfl h
theorem ok__law_script {f : Addr} {fd : FuncData} {k : Nat} (F : L2.Fun K "_law_script" "_law_script" s__law_script f fd) (g : mg "_law_script" = some (.ref f)) (B : Bs K mg) (c__law_draw : C8.Cal P w K mg base k "_law_draw" (spT (gm K w) [(.lent 2), .sh] (.fz) f__law_draw) []) : C8.Cal P w K mg base (k + 1) "_law_script" (spT (gm K w) [(.lent 2), .sh, .sh] ((.own 1)) f__law_script) [] := by
  refine calT F g sc__law_script (F.binds (ps := P__law_script) fun _ _ _ _ _ _ us hl => match us, hl with | [_, _, _], _ => rfl) rfl fun cdv A outer s H Q E vs hr h => ?_
  refine ⟨_, (pss_cons (ps_set (i := 3) sc__law_script.nd rfl (.inl rfl) (pe_lst pa_nil))
      (pss_cons (ps_for PassesOwn.never rfl (pi_range1 rfl B.b_range (pa_cons (C8.pe_c c__law_draw hr (by omega) rfl (pa_cons (pv 0) (pa_cons (pe_op opU_add (pv 2) pe_int) pa_nil))) pa_nil)) (pg_name (i := 4) sc__law_script.nd rfl (.inl rfl))
      (pss_cons (ps_set (i := 5) sc__law_script.nd rfl (.inl rfl) (C8.pe_c c__law_draw hr (by omega) rfl (pa_cons (pv 0) (pa_cons pe_int pa_nil))))
      (pss_cons (ps_set (i := 6) sc__law_script.nd rfl (.inr rfl) (pe_ix (ixU (Γ := gm K w) (uu9 hr) rfl rfl) (pv 1) (C8.pe_c c__law_draw hr (by omega) rfl (pa_cons (pv 0) (pa_cons (pe_callB (lenU (Γ := gm K w) rfl) rfl B.b_len (by decide +kernel) (pa_cons (pv 1) pa_nil)) pa_nil))) (fun _ _ => rfl)))
      (pss_cons (ps_setLc (i := 7) (own := [("_law_name_here", 8)]) rfl sc__law_script.nd rfl rfl (sw_true rfl rfl rfl (by decide +kernel)) (piU (Γ := gm K w) rfl rfl (pv 1)) (blkOk_by (own := [("_law_name_here", 8)]) (N := N__law_script) (sc := defScope s__law_script) (by decide +kernel)) (fun _ _ _ _ _ => (pg_name (i := 8) sc__law_script.nd rfl (.inl rfl))) (fun _ _ _ _ _ => (pts_one (pt_cmpR (opU_ne (Γ := gm K w) rfl (uu64 hr)) (pv 8) (pv 6) (by rfl)))) (fun _ _ _ _ _ => (pv 8)))
      (pss_one (ps_if (PW.pt (pw_and (pt_cmpR (opU_eq (Γ := gm K w) rfl (uu64 hr)) (pv 5) pe_int (by rfl)) (pw_and1 (pt_cmpR op_gt (pe_callB (lenU (Γ := gm K w) rfl) rfl B.b_len (by decide +kernel) (pa_cons (pv 7) pa_nil)) pe_int (by rfl))))) (pss_one (ps_expr (k_bm K PySem.F.plainAttrs_list PySem.F.slot_list_append PySem.F.type_list_append mt_append (pv 3) (pa_cons (pe_tup (pa_cons pe_str (pa_cons (pv 6) (pa_cons (pe_ix (ixU (Γ := gm K w) (uu9 hr) rfl rfl) (pv 7) (C8.pe_c c__law_draw hr (by omega) rfl (pa_cons (pv 0) (pa_cons (pe_callB (lenU (Γ := gm K w) rfl) rfl B.b_len (by decide +kernel) (pa_cons (pv 7) pa_nil)) pa_nil))) (fun _ _ => rfl)) pa_nil)))) pa_nil)))) (pss_one (ps_expr (k_bm K PySem.F.plainAttrs_list PySem.F.slot_list_append PySem.F.type_list_append mt_append (pv 3) (pa_cons (pe_tup (pa_cons (pe_ix (ixU (Γ := gm K w) (uu9 hr) rfl rfl) (pe_lst (pa_cons pe_str (pa_cons pe_str (pa_cons pe_str (pa_cons pe_str pa_nil))))) (pv 5) (fun _ _ => rfl)) (pa_cons (pv 6) pa_nil))) pa_nil))))))))))
      (pss_one (ps_ret (pv 3))))), ?_⟩
  exact body_sim (Γ := gm K w) (pms := [(.lent 2), .sh, .sh]) (lms := [(.own 1), (.own 0), (.own 0), (.own 0), (.own 0), .sh]) (rr := (.own 1)) (s := st__law_script) (sim_seq (sim_set (sim_lst sim_nil (by simp [All])) rfl rfl)
      (sim_seq (sim_for (sim_range1 (r := .fz) (sim_cons (sim_callL (rr := .fz) (p1 := []) (p2 := [.sh]) (c1 := []) (c2 := [.fz]) (n := 2) (i := 0) (sim_consS rfl (sim_cons (sim_op opS_add (sim_var (r := .sh) rfl True.intro (fun _ h => nomatch h)) (sim_c Rep0.int) True.intro) sim_nil True.intro)) rfl rfl rfl rfl (by simp [TL.Args, TL.Arg]) (by simp [TL.Args, TL.Arg]) (noNow_of (by decide)) hlen_of hlen_ex True.intro) sim_nil True.intro) True.intro) (sim_gname rfl True.intro (.inr rfl)) (sim_seq (sim_set (sim_callL (rr := .fz) (p1 := []) (p2 := [.sh]) (c1 := []) (c2 := [.fz]) (n := 2) (i := 0) (sim_consS rfl (sim_cons (sim_c Rep0.int) sim_nil True.intro)) rfl rfl rfl rfl (by simp [TL.Args, TL.Arg]) (by simp [TL.Args, TL.Arg]) (noNow_of (by decide)) hlen_of hlen_ex True.intro) rfl True.intro)
      (sim_seq (sim_set (SimE.imm (sim_el elS_get (sim_var (r := .sh) rfl True.intro (fun _ h => nomatch h)) (sim_callL (rr := .fz) (p1 := []) (p2 := [.sh]) (c1 := []) (c2 := [.fz]) (n := 2) (i := 0) (sim_consS rfl (sim_cons (sim_cb callS_len (sim_cons (sim_var (r := .sh) rfl True.intro (fun _ h => nomatch h)) sim_nil True.intro) True.intro) sim_nil True.intro)) rfl rfl rfl rfl (by simp [TL.Args, TL.Arg]) (by simp [TL.Args, TL.Arg]) (noNow_of (by decide)) hlen_of hlen_ex True.intro) True.intro)) rfl True.intro)
      (sim_seq (sim_set (SimE.frz (sim_lc (by decide) (sim_iU (sim_var (r := .sh) rfl True.intro (fun _ h => nomatch h)) (.inl rfl)) (sim_gvname (by decide) rfl True.intro (.inl rfl)) put_ne (sim_test (sim_op opS_ne (sim_var (r := .sh) rfl True.intro (fun _ h => nomatch h)) (sim_var (r := .fz) rfl True.intro (fun _ h => nomatch h)) True.intro)) (SimE.fz0 (SimE.imm (sim_var (r := .sh) rfl True.intro (fun _ h => nomatch h)))))) rfl True.intro)
      (sim_ifS (sim_and (sim_test (sim_op opS_eq (sim_var (r := .fz) rfl True.intro (fun _ h => nomatch h)) (sim_c Rep0.int) True.intro)) (sim_test (sim_op opS_gt (sim_cb callS_len (sim_cons (sim_var (r := .fz) rfl True.intro (fun _ h => nomatch h)) sim_nil True.intro) True.intro) (sim_c Rep0.int) True.intro))) (sim_drop (sim_append rfl rfl (SimE.fz0 (sim_tup_fz (sim_cons (sim_c Rep0.str) (sim_cons (sim_var (r := .fz) rfl True.intro (fun _ h => nomatch h)) (sim_cons (sim_el elS_get (sim_var (r := .fz) rfl True.intro (fun _ h => nomatch h)) (sim_callL (rr := .fz) (p1 := []) (p2 := [.sh]) (c1 := []) (c2 := [.fz]) (n := 2) (i := 0) (sim_consS rfl (sim_cons (sim_cb callS_len (sim_cons (sim_var (r := .fz) rfl True.intro (fun _ h => nomatch h)) sim_nil True.intro) True.intro) sim_nil True.intro)) rfl rfl rfl rfl (by simp [TL.Args, TL.Arg]) (by simp [TL.Args, TL.Arg]) (noNow_of (by decide)) hlen_of hlen_ex True.intro) True.intro) sim_nil True.intro) True.intro) True.intro) (by simp [All]))))) (sim_drop (sim_append rfl rfl (SimE.fz0 (sim_tup_fz (sim_cons (sim_el elS_get (SimE.frz (sim_lst (sim_cons (sim_c Rep0.str) (sim_cons (sim_c Rep0.str) (sim_cons (sim_c Rep0.str) (sim_cons (sim_c Rep0.str) sim_nil True.intro) True.intro) True.intro) True.intro) (by simp [All]))) (sim_var (r := .fz) rfl True.intro (fun _ h => nomatch h)) True.intro) (sim_cons (sim_var (r := .fz) rfl True.intro (fun _ h => nomatch h)) sim_nil True.intro) True.intro) (by simp [All]))))))))) put_ne)
      (sim_ret (sim_mv rfl)))) True.intro rfl h
theorem ok__law_strange {f : Addr} {fd : FuncData} {k : Nat} (F : L2.Fun K "_law_strange" "_law_strange" s__law_strange f fd) (g : mg "_law_strange" = some (.ref f)) (B : Bs K mg) (c__law_draw : C8.Cal P w K mg base k "_law_draw" (spT (gm K w) [(.lent 2), .sh] (.fz) f__law_draw) []) : C8.Cal P w K mg base (k + 1) "_law_strange" (spT (gm K w) [(.lent 2), .sh] (.fz) f__law_strange) [] := by
  refine calT F g sc__law_strange (F.binds (ps := P__law_strange) fun _ _ _ _ _ _ us hl => match us, hl with | [_, _], _ => rfl) rfl fun cdv A outer s H Q E vs hr h => ?_
  refine ⟨_, (pss_cons (ps_set (i := 2) sc__law_strange.nd rfl (.inl rfl) (pe_lst (pa_cons (pv 1) pa_nil)))
      (pss_cons (ps_for PassesOwn.never rfl (pi_range1 rfl B.b_range (pa_cons pe_int pa_nil)) (pg_name (i := 3) sc__law_strange.nd rfl (.inl rfl))
      (pss_one (ps_set (i := 2) sc__law_strange.nd rfl (.inl rfl) (pe_lst (pa_cons (pv 2) pa_nil)))))
      (pss_cons (ps_set (i := 4) sc__law_strange.nd rfl (.inl rfl) (pe_lst (pa_cons pe_non (pa_cons pe_bl (pa_cons pe_int (pa_cons pe_str (pa_cons pe_str (pa_cons pe_str (pa_cons pe_str (pa_cons pe_str (pa_cons (pe_un un_neg pe_int) pa_nil)))))))))))
      (pss_cons (ps_set (i := 4) sc__law_strange.nd rfl (.inl rfl) (pe_op (opQ_add (Γ := gm K w) rfl) (pv 4) (pe_lst (pa_cons (pe_lst (pa_cons (pv 1) pa_nil)) (pa_cons (pe_tup (pa_cons (pv 1) pa_nil)) (pa_cons (pe_lst pa_nil) (pa_cons (pe_dnewX (Γ := gm K w) rfl) (pa_cons (pe_op opU_add (pv 1) pe_str) (pa_cons (pe_op op_pow pe_int pe_int) (pa_cons (pv 2) pa_nil))))))))))
      (pss_one (ps_ret (pe_ix (ixU (Γ := gm K w) (uu9 hr) rfl rfl) (pv 4) (C8.pe_c c__law_draw hr (by omega) rfl (pa_cons (pv 0) (pa_cons (pe_callB (lenU (Γ := gm K w) rfl) rfl B.b_len (by decide +kernel) (pa_cons (pv 4) pa_nil)) pa_nil))) (fun _ _ => rfl)))))))), ?_⟩
  exact body_sim (Γ := gm K w) (pms := [(.lent 2), .sh]) (lms := [(.own 0), (.own 0), (.own 0)]) (rr := .fz) (s := st__law_strange) (sim_seq (sim_set (SimE.frz (sim_lst (sim_cons (SimE.imm (sim_var (r := .sh) rfl True.intro (fun _ h => nomatch h))) sim_nil True.intro) (by simp [All]))) rfl True.intro)
      (sim_seq (sim_for (sim_range1 (r := .fz) (sim_cons (sim_c Rep0.int) sim_nil True.intro) True.intro) (sim_gname rfl True.intro (.inr rfl)) (sim_set (SimE.frz (sim_lst (sim_cons (sim_var (r := .fz) rfl True.intro (fun _ h => nomatch h)) sim_nil True.intro) (by simp [All]))) rfl True.intro) put_ne)
      (sim_seq (sim_set (SimE.frz (sim_lst (sim_cons (sim_c Rep0.non) (sim_cons (sim_c Rep0.bl) (sim_cons (sim_c Rep0.int) (sim_cons (sim_c Rep0.str) (sim_cons (sim_c Rep0.str) (sim_cons (sim_c Rep0.str) (sim_cons (sim_c Rep0.str) (sim_cons (sim_c Rep0.str) (sim_cons (sim_neg (sim_c Rep0.int)) sim_nil True.intro) True.intro) True.intro) True.intro) True.intro) True.intro) True.intro) True.intro) True.intro) (by simp [All]))) rfl True.intro)
      (sim_seq (sim_set (SimE.frz (sim_cat_fz (sim_var (r := .fz) rfl True.intro (fun _ h => nomatch h)) (SimE.frz (sim_lst (sim_cons (SimE.frz (sim_lst (sim_cons (SimE.imm (sim_var (r := .sh) rfl True.intro (fun _ h => nomatch h))) sim_nil True.intro) (by simp [All]))) (sim_cons (sim_tup_fz (sim_cons (SimE.imm (sim_var (r := .sh) rfl True.intro (fun _ h => nomatch h))) sim_nil True.intro) (by simp [All])) (sim_cons (SimE.frz (sim_lst sim_nil (by simp [All]))) (sim_cons (SimE.frz sim_dnew) (sim_cons (sim_op opS_add (sim_var (r := .sh) rfl True.intro (fun _ h => nomatch h)) (sim_c Rep0.str) True.intro) (sim_cons (sim_op opS_pow (sim_c Rep0.int) (sim_c Rep0.int) True.intro) (sim_cons (sim_var (r := .fz) rfl True.intro (fun _ h => nomatch h)) sim_nil True.intro) True.intro) True.intro) True.intro) True.intro) True.intro) True.intro) (by simp [All]))))) rfl True.intro)
      (sim_ret (sim_el elS_get (sim_var (r := .fz) rfl True.intro (fun _ h => nomatch h)) (sim_callL (rr := .fz) (p1 := []) (p2 := [.sh]) (c1 := []) (c2 := [.fz]) (n := 2) (i := 0) (sim_consS rfl (sim_cons (sim_cb callS_len (sim_cons (sim_var (r := .fz) rfl True.intro (fun _ h => nomatch h)) sim_nil True.intro) True.intro) sim_nil True.intro)) rfl rfl rfl rfl (by simp [TL.Args, TL.Arg]) (by simp [TL.Args, TL.Arg]) (noNow_of (by decide)) hlen_of hlen_ex True.intro) True.intro)))))) True.intro rfl h
theorem ok__law_bad_edit {f : Addr} {fd : FuncData} {k : Nat} (F : L2.Fun K "_law_bad_edit" "_law_bad_edit" s__law_bad_edit f fd) (g : mg "_law_bad_edit" = some (.ref f)) (B : Bs K mg) (c__law_draw : C8.Cal P w K mg base k "_law_draw" (spT (gm K w) [(.lent 2), .sh] (.fz) f__law_draw) []) (c__law_strange : C8.Cal P w K mg base k "_law_strange" (spT (gm K w) [(.lent 2), .sh] (.fz) f__law_strange) []) : C8.Cal P w K mg base (k + 1) "_law_bad_edit" (spT (gm K w) [(.lent 2), .sh] (.fz) f__law_bad_edit) [] := by
  refine calT F g sc__law_bad_edit (F.binds (ps := P__law_bad_edit) fun _ _ _ _ _ _ us hl => match us, hl with | [_, _], _ => rfl) rfl fun cdv A outer s H Q E vs hr h => ?_
  refine ⟨_, (pss_cons (ps_set (i := 2) sc__law_bad_edit.nd rfl (.inl rfl) (C8.pe_c c__law_draw hr (by omega) rfl (pa_cons (pv 0) (pa_cons pe_int pa_nil))))
      (pss_cons (ps_if (pt_cmpR (opU_eq (Γ := gm K w) rfl (uu64 hr)) (pv 2) pe_int (by rfl)) (pss_one (ps_ret (C8.pe_c c__law_strange hr (by omega) rfl (pa_cons (pv 0) (pa_cons (pv 1) pa_nil))))) pss_nil)
      (pss_cons (ps_if (pt_cmpR (opU_eq (Γ := gm K w) rfl (uu64 hr)) (pv 2) pe_int (by rfl)) (pss_cons (ps_set (i := 3) sc__law_bad_edit.nd rfl (.inl rfl) (pe_ix (ixU (Γ := gm K w) (uu9 hr) rfl rfl) (pe_lst (pa_cons pe_str (pa_cons pe_str (pa_cons pe_str (pa_cons pe_str pa_nil))))) (C8.pe_c c__law_draw hr (by omega) rfl (pa_cons (pv 0) (pa_cons pe_int pa_nil))) (fun _ _ => rfl)))
      (pss_cons (ps_set (i := 4) sc__law_bad_edit.nd rfl (.inl rfl) (pe_ix (ixU (Γ := gm K w) (uu9 hr) rfl rfl) (pe_lst (pa_cons pe_non (pa_cons pe_str (pa_cons pe_str (pa_cons (pe_op opU_add (pv 1) pe_str) (pa_cons pe_str (pa_cons pe_int (pa_cons (pe_tup (pa_cons (pv 1) pa_nil)) pa_nil)))))))) (C8.pe_c c__law_draw hr (by omega) rfl (pa_cons (pv 0) (pa_cons pe_int pa_nil))) (fun _ _ => rfl)))
      (pss_one (ps_ret (pe_ix (ixU (Γ := gm K w) (uu9 hr) rfl rfl) (pe_lst (pa_cons (pe_tup (pa_cons (pv 3) (pa_cons (pv 4) pa_nil))) (pa_cons (pe_tup (pa_cons (pv 3) (pa_cons (pv 4) (pa_cons (pv 1) pa_nil)))) (pa_cons (pe_tup (pa_cons (pv 3) (pa_cons (pv 1) (pa_cons (pv 4) pa_nil)))) pa_nil)))) (C8.pe_c c__law_draw hr (by omega) rfl (pa_cons (pv 0) (pa_cons pe_int pa_nil))) (fun _ _ => rfl)))))) pss_nil)
      (pss_cons (ps_set (i := 4) sc__law_bad_edit.nd rfl (.inl rfl) (pe_lst (pa_cons (pe_lst (pa_cons pe_str (pa_cons (pv 1) pa_nil))) (pa_cons (pe_tup (pa_cons pe_str pa_nil)) (pa_cons (pe_tup (pa_cons pe_str (pa_cons (pv 1) (pa_cons (pe_op opU_add (pv 1) pe_str) pa_nil)))) (pa_cons (pe_tup (pa_cons pe_str (pa_cons (pv 1) (pa_cons (pv 1) pa_nil)))) (pa_cons (pe_tup (pa_cons pe_str (pa_cons (pv 1) pa_nil))) (pa_cons (pe_tup (pa_cons pe_str (pa_cons (pv 1) pa_nil))) pa_nil))))))))
      (pss_cons (ps_set (i := 4) sc__law_bad_edit.nd rfl (.inl rfl) (pe_op (opQ_add (Γ := gm K w) rfl) (pv 4) (pe_lst (pa_cons (pe_tup (pa_cons pe_str (pa_cons (pv 1) pa_nil))) (pa_cons (pe_tup (pa_cons (pv 1) (pa_cons pe_str pa_nil))) (pa_cons (pe_tup (pa_cons pe_str (pa_cons (pv 1) (pa_cons (pv 1) (pa_cons (pv 1) pa_nil))))) (pa_cons (pe_tup pa_nil) (pa_cons (pe_tup (pa_cons pe_str (pa_cons (pv 1) (pa_cons (pv 1) (pa_cons (pv 1) pa_nil))))) (pa_cons (pe_tup (pa_cons pe_int (pa_cons (pv 1) pa_nil))) pa_nil)))))))))
      (pss_one (ps_ret (pe_ix (ixU (Γ := gm K w) (uu9 hr) rfl rfl) (pv 4) (C8.pe_c c__law_draw hr (by omega) rfl (pa_cons (pv 0) (pa_cons pe_int pa_nil))) (fun _ _ => rfl))))))))), ?_⟩
  exact body_sim (Γ := gm K w) (pms := [(.lent 2), .sh]) (lms := [(.own 0), (.own 0), (.own 0)]) (rr := .fz) (s := st__law_bad_edit) (sim_seq (sim_set (sim_callL (rr := .fz) (p1 := []) (p2 := [.sh]) (c1 := []) (c2 := [.fz]) (n := 2) (i := 0) (sim_consS rfl (sim_cons (sim_c Rep0.int) sim_nil True.intro)) rfl rfl rfl rfl (by simp [TL.Args, TL.Arg]) (by simp [TL.Args, TL.Arg]) (noNow_of (by decide)) hlen_of hlen_ex True.intro) rfl True.intro)
      (sim_seq (sim_ifS (sim_test (sim_op opS_eq (sim_var (r := .fz) rfl True.intro (fun _ h => nomatch h)) (sim_c Rep0.int) True.intro)) (sim_ret (sim_callL (rr := .fz) (p1 := []) (p2 := [.sh]) (c1 := []) (c2 := [.sh]) (n := 2) (i := 0) (sim_consS rfl (sim_cons (sim_var (r := .sh) rfl True.intro (fun _ h => nomatch h)) sim_nil True.intro)) rfl rfl rfl rfl (by simp [TL.Args, TL.Arg]) (by simp [TL.Args, TL.Arg]) (noNow_of (by decide)) hlen_of hlen_ex True.intro)) sim_next)
      (sim_seq (sim_ifS (sim_test (sim_op opS_eq (sim_var (r := .fz) rfl True.intro (fun _ h => nomatch h)) (sim_c Rep0.int) True.intro)) (sim_seq (sim_set (sim_el elS_get (SimE.frz (sim_lst (sim_cons (sim_c Rep0.str) (sim_cons (sim_c Rep0.str) (sim_cons (sim_c Rep0.str) (sim_cons (sim_c Rep0.str) sim_nil True.intro) True.intro) True.intro) True.intro) (by simp [All]))) (sim_callL (rr := .fz) (p1 := []) (p2 := [.sh]) (c1 := []) (c2 := [.fz]) (n := 2) (i := 0) (sim_consS rfl (sim_cons (sim_c Rep0.int) sim_nil True.intro)) rfl rfl rfl rfl (by simp [TL.Args, TL.Arg]) (by simp [TL.Args, TL.Arg]) (noNow_of (by decide)) hlen_of hlen_ex True.intro) True.intro) rfl True.intro)
      (sim_seq (sim_set (sim_el elS_get (SimE.frz (sim_lst (sim_cons (sim_c Rep0.non) (sim_cons (sim_c Rep0.str) (sim_cons (sim_c Rep0.str) (sim_cons (sim_op opS_add (sim_var (r := .sh) rfl True.intro (fun _ h => nomatch h)) (sim_c Rep0.str) True.intro) (sim_cons (sim_c Rep0.str) (sim_cons (sim_c Rep0.int) (sim_cons (sim_tup_fz (sim_cons (SimE.imm (sim_var (r := .sh) rfl True.intro (fun _ h => nomatch h))) sim_nil True.intro) (by simp [All])) sim_nil True.intro) True.intro) True.intro) True.intro) True.intro) True.intro) True.intro) (by simp [All]))) (sim_callL (rr := .fz) (p1 := []) (p2 := [.sh]) (c1 := []) (c2 := [.fz]) (n := 2) (i := 0) (sim_consS rfl (sim_cons (sim_c Rep0.int) sim_nil True.intro)) rfl rfl rfl rfl (by simp [TL.Args, TL.Arg]) (by simp [TL.Args, TL.Arg]) (noNow_of (by decide)) hlen_of hlen_ex True.intro) True.intro) rfl True.intro)
      (sim_ret (sim_el elS_get (SimE.frz (sim_lst (sim_cons (sim_tup_fz (sim_cons (sim_var (r := .fz) rfl True.intro (fun _ h => nomatch h)) (sim_cons (sim_var (r := .fz) rfl True.intro (fun _ h => nomatch h)) sim_nil True.intro) True.intro) (by simp [All])) (sim_cons (sim_tup_fz (sim_cons (sim_var (r := .fz) rfl True.intro (fun _ h => nomatch h)) (sim_cons (sim_var (r := .fz) rfl True.intro (fun _ h => nomatch h)) (sim_cons (SimE.imm (sim_var (r := .sh) rfl True.intro (fun _ h => nomatch h))) sim_nil True.intro) True.intro) True.intro) (by simp [All])) (sim_cons (sim_tup_fz (sim_cons (sim_var (r := .fz) rfl True.intro (fun _ h => nomatch h)) (sim_cons (SimE.imm (sim_var (r := .sh) rfl True.intro (fun _ h => nomatch h))) (sim_cons (sim_var (r := .fz) rfl True.intro (fun _ h => nomatch h)) sim_nil True.intro) True.intro) True.intro) (by simp [All])) sim_nil True.intro) True.intro) True.intro) (by simp [All]))) (sim_callL (rr := .fz) (p1 := []) (p2 := [.sh]) (c1 := []) (c2 := [.fz]) (n := 2) (i := 0) (sim_consS rfl (sim_cons (sim_c Rep0.int) sim_nil True.intro)) rfl rfl rfl rfl (by simp [TL.Args, TL.Arg]) (by simp [TL.Args, TL.Arg]) (noNow_of (by decide)) hlen_of hlen_ex True.intro) True.intro)))) sim_next)
      (sim_seq (sim_set (SimE.frz (sim_lst (sim_cons (SimE.frz (sim_lst (sim_cons (sim_c Rep0.str) (sim_cons (SimE.imm (sim_var (r := .sh) rfl True.intro (fun _ h => nomatch h))) sim_nil True.intro) True.intro) (by simp [All]))) (sim_cons (sim_tup_fz (sim_cons (sim_c Rep0.str) sim_nil True.intro) (by simp [All])) (sim_cons (sim_tup_fz (sim_cons (sim_c Rep0.str) (sim_cons (SimE.imm (sim_var (r := .sh) rfl True.intro (fun _ h => nomatch h))) (sim_cons (sim_op opS_add (sim_var (r := .sh) rfl True.intro (fun _ h => nomatch h)) (sim_c Rep0.str) True.intro) sim_nil True.intro) True.intro) True.intro) (by simp [All])) (sim_cons (sim_tup_fz (sim_cons (sim_c Rep0.str) (sim_cons (SimE.imm (sim_var (r := .sh) rfl True.intro (fun _ h => nomatch h))) (sim_cons (SimE.imm (sim_var (r := .sh) rfl True.intro (fun _ h => nomatch h))) sim_nil True.intro) True.intro) True.intro) (by simp [All])) (sim_cons (sim_tup_fz (sim_cons (sim_c Rep0.str) (sim_cons (SimE.imm (sim_var (r := .sh) rfl True.intro (fun _ h => nomatch h))) sim_nil True.intro) True.intro) (by simp [All])) (sim_cons (sim_tup_fz (sim_cons (sim_c Rep0.str) (sim_cons (SimE.imm (sim_var (r := .sh) rfl True.intro (fun _ h => nomatch h))) sim_nil True.intro) True.intro) (by simp [All])) sim_nil True.intro) True.intro) True.intro) True.intro) True.intro) True.intro) (by simp [All]))) rfl True.intro)
      (sim_seq (sim_set (SimE.frz (sim_cat_fz (sim_var (r := .fz) rfl True.intro (fun _ h => nomatch h)) (SimE.frz (sim_lst (sim_cons (sim_tup_fz (sim_cons (sim_c Rep0.str) (sim_cons (SimE.imm (sim_var (r := .sh) rfl True.intro (fun _ h => nomatch h))) sim_nil True.intro) True.intro) (by simp [All])) (sim_cons (sim_tup_fz (sim_cons (SimE.imm (sim_var (r := .sh) rfl True.intro (fun _ h => nomatch h))) (sim_cons (sim_c Rep0.str) sim_nil True.intro) True.intro) (by simp [All])) (sim_cons (sim_tup_fz (sim_cons (sim_c Rep0.str) (sim_cons (SimE.imm (sim_var (r := .sh) rfl True.intro (fun _ h => nomatch h))) (sim_cons (SimE.imm (sim_var (r := .sh) rfl True.intro (fun _ h => nomatch h))) (sim_cons (SimE.imm (sim_var (r := .sh) rfl True.intro (fun _ h => nomatch h))) sim_nil True.intro) True.intro) True.intro) True.intro) (by simp [All])) (sim_cons (sim_tup_fz sim_nil (by simp [All])) (sim_cons (sim_tup_fz (sim_cons (sim_c Rep0.str) (sim_cons (SimE.imm (sim_var (r := .sh) rfl True.intro (fun _ h => nomatch h))) (sim_cons (SimE.imm (sim_var (r := .sh) rfl True.intro (fun _ h => nomatch h))) (sim_cons (SimE.imm (sim_var (r := .sh) rfl True.intro (fun _ h => nomatch h))) sim_nil True.intro) True.intro) True.intro) True.intro) (by simp [All])) (sim_cons (sim_tup_fz (sim_cons (sim_c Rep0.int) (sim_cons (SimE.imm (sim_var (r := .sh) rfl True.intro (fun _ h => nomatch h))) sim_nil True.intro) True.intro) (by simp [All])) sim_nil True.intro) True.intro) True.intro) True.intro) True.intro) True.intro) (by simp [All]))))) rfl True.intro)
      (sim_ret (sim_el elS_get (sim_var (r := .fz) rfl True.intro (fun _ h => nomatch h)) (sim_callL (rr := .fz) (p1 := []) (p2 := [.sh]) (c1 := []) (c2 := [.fz]) (n := 2) (i := 0) (sim_consS rfl (sim_cons (sim_c Rep0.int) sim_nil True.intro)) rfl rfl rfl rfl (by simp [TL.Args, TL.Arg]) (by simp [TL.Args, TL.Arg]) (noNow_of (by decide)) hlen_of hlen_ex True.intro) True.intro))))))) True.intro rfl h
theorem ok__law_good {f : Addr} {fd : FuncData} {k : Nat} (F : L2.Fun K "_law_good" "_law_good" s__law_good f fd) (g : mg "_law_good" = some (.ref f)) (B : Bs K mg)  : C8.Cal P w K mg base (k + 1) "_law_good" (spT (gm K w) [.sh] (.fz) f__law_good) [] := by
  refine calT F g sc__law_good (F.binds (ps := P__law_good) fun _ _ _ _ _ _ us hl => match us, hl with | [_], _ => rfl) rfl fun cdv A outer s H Q E vs hr h => ?_
  refine ⟨_, (pss_cons (ps_if (PW.pt (pw_or (pt_not (pt_val (pe_callB (isiU1 (Γ := gm K w) rfl) rfl B.b_isinstance (by decide +kernel) (pa_cons (pv 0) (pa_cons (pe_bltn (v := .ty "tuple") rfl B.b_tuple (by decide +kernel) rfl) pa_nil))))) (pw_or (pt_cmpR op_lt (pe_callB (lenU (Γ := gm K w) rfl) rfl B.b_len (by decide +kernel) (pa_cons (pv 0) pa_nil)) pe_int (by rfl)) (pw_or1 (pt_cmpR op_gt (pe_callB (lenU (Γ := gm K w) rfl) rfl B.b_len (by decide +kernel) (pa_cons (pv 0) pa_nil)) pe_int (by rfl)))))) (pss_one (ps_ret pe_bl)) pss_nil)
      (pss_cons (ps_for PassesOwn.never rfl (piU (Γ := gm K w) rfl rfl (pe_slice (k_slq K) (pv 0) (po_some pe_int) po_none)) (pg_name (i := 1) sc__law_good.nd rfl (.inl rfl))
      (pss_cons (ps_if (PW.pt (pw_or (pt_not (pt_val (pe_callB (isiU1 (Γ := gm K w) rfl) rfl B.b_isinstance (by decide +kernel) (pa_cons (pv 1) (pa_cons (pe_bltn (v := .ty "str") rfl B.b_str (by decide +kernel) rfl) pa_nil))))) (pw_or (pt_cmpR (opU_eq (Γ := gm K w) rfl (uu64 hr)) (pv 1) pe_str (by rfl)) (pw_or1 (pt_cmpR op_gt (pe_callB (lenU (Γ := gm K w) rfl) rfl B.b_len (by decide +kernel) (pa_cons (pv 1) pa_nil)) pe_int (by rfl)))))) (pss_one (ps_ret pe_bl)) pss_nil)
      (pss_one (ps_if (pt_cmpR op_gt (pe_callB (lenU (Γ := gm K w) rfl) rfl B.b_len (by decide +kernel) (pa_cons (pe_lc (own := [("_law_letter", 2)]) rfl sc__law_good.nd (piU (Γ := gm K w) rfl rfl (pv 1)) (blkOk_by (own := [("_law_letter", 2)]) (N := N__law_good) (sc := defScope s__law_good) (by decide +kernel)) (fun _ _ _ _ _ => (pg_name (i := 2) sc__law_good.nd rfl (.inl rfl))) (fun _ _ _ _ _ => (pts_one (pt_cmpR (opU_notIn (Γ := gm K w) (uu9 hr) rfl rfl) (pv 2) pe_str (by rfl)))) (fun _ _ _ _ _ => (pv 2))) pa_nil)) pe_int (by rfl)) (pss_one (ps_ret pe_bl)) pss_nil))))
      (pss_cons (ps_if (pt_cmpR (opU_eq (Γ := gm K w) rfl (uu64 hr)) (pe_callB (lenU (Γ := gm K w) rfl) rfl B.b_len (by decide +kernel) (pa_cons (pv 0) pa_nil)) pe_int (by rfl)) (pss_one (ps_ret (pe_and (pe_cmpR (opU_eq (Γ := gm K w) rfl (uu64 hr)) (pe_ix (ixU (Γ := gm K w) (uu9 hr) rfl rfl) (pv 0) pe_int (fun _ _ => rfl)) pe_str (by rfl)) (pe_one (pe_cmpR (opU_ne (Γ := gm K w) rfl (uu64 hr)) (pe_ix (ixU (Γ := gm K w) (uu9 hr) rfl rfl) (pv 0) pe_int (fun _ _ => rfl)) (pe_ix (ixU (Γ := gm K w) (uu9 hr) rfl rfl) (pv 0) pe_int (fun _ _ => rfl)) (by rfl)))))) pss_nil)
      (pss_one (ps_ret (pe_or (pe_cmpR (opU_eq (Γ := gm K w) rfl (uu64 hr)) (pe_ix (ixU (Γ := gm K w) (uu9 hr) rfl rfl) (pv 0) pe_int (fun _ _ => rfl)) pe_str (by rfl)) (pe_or (pe_cmpR (opU_eq (Γ := gm K w) rfl (uu64 hr)) (pe_ix (ixU (Γ := gm K w) (uu9 hr) rfl rfl) (pv 0) pe_int (fun _ _ => rfl)) pe_str (by rfl)) (pe_one (pe_cmpR (opU_eq (Γ := gm K w) rfl (uu64 hr)) (pe_ix (ixU (Γ := gm K w) (uu9 hr) rfl rfl) (pv 0) pe_int (fun _ _ => rfl)) pe_str (by rfl)))))))))), ?_⟩
  exact body_sim (Γ := gm K w) (pms := [.sh]) (lms := [.sh, .sh]) (rr := .fz) (s := st__law_good) (sim_seq (sim_ifS (sim_or (sim_not (sim_tB (sim_isa1 kit_tuple (sim_var (r := .sh) rfl True.intro (fun _ h => nomatch h))))) (sim_or (sim_test (sim_op opS_lt (sim_cb callS_len (sim_cons (sim_var (r := .sh) rfl True.intro (fun _ h => nomatch h)) sim_nil True.intro) True.intro) (sim_c Rep0.int) True.intro)) (sim_test (sim_op opS_gt (sim_cb callS_len (sim_cons (sim_var (r := .sh) rfl True.intro (fun _ h => nomatch h)) sim_nil True.intro) True.intro) (sim_c Rep0.int) True.intro)))) (sim_ret (sim_c Rep0.bl)) sim_next)
      (sim_seq (sim_for (sim_iU (sim_sl_sh (sim_var (r := .sh) rfl True.intro (fun _ h => nomatch h)) (sim_part (sim_c Rep0.int)) sim_nopart) (.inl rfl)) (sim_gname rfl True.intro (.inl rfl)) (sim_seq (sim_ifS (sim_or (sim_not (sim_tB (sim_isa1 kit_str (sim_var (r := .sh) rfl True.intro (fun _ h => nomatch h))))) (sim_or (sim_test (sim_op opS_eq (sim_var (r := .sh) rfl True.intro (fun _ h => nomatch h)) (sim_c Rep0.str) True.intro)) (sim_test (sim_op opS_gt (sim_cb callS_len (sim_cons (sim_var (r := .sh) rfl True.intro (fun _ h => nomatch h)) sim_nil True.intro) True.intro) (sim_c Rep0.int) True.intro)))) (sim_ret (sim_c Rep0.bl)) sim_next)
      (sim_ifS (sim_test (sim_op opS_gt (sim_cb callS_len (sim_cons (SimE.frz (sim_lc (by decide) (sim_iU (sim_var (r := .sh) rfl True.intro (fun _ h => nomatch h)) (.inl rfl)) (sim_gvname (by decide) rfl True.intro (.inl rfl)) put_ne (sim_test (sim_op opS_notIn (sim_var (r := .sh) rfl True.intro (fun _ h => nomatch h)) (sim_c Rep0.str) True.intro)) (SimE.fz0 (SimE.imm (sim_var (r := .sh) rfl True.intro (fun _ h => nomatch h)))))) sim_nil True.intro) True.intro) (sim_c Rep0.int) True.intro)) (sim_ret (sim_c Rep0.bl)) sim_next)) put_ne)
      (sim_seq (sim_ifS (sim_test (sim_op opS_eq (sim_cb callS_len (sim_cons (sim_var (r := .sh) rfl True.intro (fun _ h => nomatch h)) sim_nil True.intro) True.intro) (sim_c Rep0.int) True.intro)) (sim_ret (sim_andV (sim_op opS_eq (sim_el elS_get (sim_var (r := .sh) rfl True.intro (fun _ h => nomatch h)) (sim_c Rep0.int) True.intro) (sim_c Rep0.str) True.intro) (sim_op opS_ne (sim_el elS_get (sim_var (r := .sh) rfl True.intro (fun _ h => nomatch h)) (sim_c Rep0.int) True.intro) (sim_el elS_get (sim_var (r := .sh) rfl True.intro (fun _ h => nomatch h)) (sim_c Rep0.int) True.intro) True.intro))) sim_next)
      (sim_ret (sim_orV (sim_op opS_eq (sim_el elS_get (sim_var (r := .sh) rfl True.intro (fun _ h => nomatch h)) (sim_c Rep0.int) True.intro) (sim_c Rep0.str) True.intro) (sim_orV (sim_op opS_eq (sim_el elS_get (sim_var (r := .sh) rfl True.intro (fun _ h => nomatch h)) (sim_c Rep0.int) True.intro) (sim_c Rep0.str) True.intro) (sim_op opS_eq (sim_el elS_get (sim_var (r := .sh) rfl True.intro (fun _ h => nomatch h)) (sim_c Rep0.int) True.intro) (sim_c Rep0.str) True.intro))))))) True.intro rfl h
theorem ok__law_place {f : Addr} {fd : FuncData} {k : Nat} (F : L2.Fun K "_law_place" "_law_place" s__law_place f fd) (g : mg "_law_place" = some (.ref f)) (B : Bs K mg) (c__law_good : C8.Cal P w K mg base k "_law_good" (spT (gm K w) [.sh] (.fz) f__law_good) []) : C8.Cal P w K mg base (k + 1) "_law_place" (spT (gm K w) [.sh] (.fz) f__law_place) [] := by
  refine calT F g sc__law_place (F.binds (ps := P__law_place) fun _ _ _ _ _ _ us hl => match us, hl with | [_], _ => rfl) rfl fun cdv A outer s H Q E vs hr h => ?_
  refine ⟨_, (pss_cons (ps_if (PW.pt (pw_or (PW.pt (pw_and (pt_not (pt_val (pe_callB (isiU1 (Γ := gm K w) rfl) rfl B.b_isinstance (by decide +kernel) (pa_cons (pv 0) (pa_cons (pe_bltn (v := .ty "list") rfl B.b_list (by decide +kernel) rfl) pa_nil))))) (pw_and1 (pt_not (pt_val (pe_callB (isiU1 (Γ := gm K w) rfl) rfl B.b_isinstance (by decide +kernel) (pa_cons (pv 0) (pa_cons (pe_bltn (v := .ty "tuple") rfl B.b_tuple (by decide +kernel) rfl) pa_nil)))))))) (pw_or1 (pt_cmpR op_gt (pe_callB (lenU (Γ := gm K w) rfl) rfl B.b_len (by decide +kernel) (pa_cons (pv 0) pa_nil)) pe_int (by rfl))))) (pss_one (ps_ret (pe_lst (pa_cons (pe_un un_neg pe_int) pa_nil)))) pss_nil)
      (pss_one (ps_ret (pe_slice (k_slq K) (pe_lc (own := [("_law_k", 1)]) rfl sc__law_place.nd (pi_range1 rfl B.b_range (pa_cons (pe_callB (lenU (Γ := gm K w) rfl) rfl B.b_len (by decide +kernel) (pa_cons (pv 0) pa_nil)) pa_nil)) (blkOk_by (own := [("_law_k", 1)]) (N := N__law_place) (sc := defScope s__law_place) (by decide +kernel)) (fun _ _ _ _ _ => (pg_name (i := 1) sc__law_place.nd rfl (.inl rfl))) (fun _ _ _ _ _ => (pts_one (pt_not (pt_val (C8.pe_c c__law_good hr (by omega) rfl (pa_cons (pe_ix (ixU (Γ := gm K w) (uu9 hr) rfl rfl) (pv 0) (pv 1) (fun _ _ => rfl)) pa_nil)))))) (fun _ _ _ _ _ => (pv 1))) po_none (po_some pe_int))))), ?_⟩
  exact body_sim (Γ := gm K w) (pms := [.sh]) (lms := [(.own 0)]) (rr := .fz) (s := st__law_place) (sim_seq (sim_ifS (sim_or (sim_and (sim_not (sim_tB (sim_isa1 kit_list (sim_var (r := .sh) rfl True.intro (fun _ h => nomatch h))))) (sim_not (sim_tB (sim_isa1 kit_tuple (sim_var (r := .sh) rfl True.intro (fun _ h => nomatch h)))))) (sim_test (sim_op opS_gt (sim_cb callS_len (sim_cons (sim_var (r := .sh) rfl True.intro (fun _ h => nomatch h)) sim_nil True.intro) True.intro) (sim_c Rep0.int) True.intro))) (sim_ret (SimE.frz (sim_lst (sim_cons (sim_neg (sim_c Rep0.int)) sim_nil True.intro) (by simp [All])))) sim_next)
      (sim_ret (SimE.frz (sim_sl_imm (SimE.frz (sim_lc (by decide) (sim_range1 (r := .fz) (sim_cons (sim_cb callS_len (sim_cons (sim_var (r := .sh) rfl True.intro (fun _ h => nomatch h)) sim_nil True.intro) True.intro) sim_nil True.intro) True.intro) (sim_gvname (by decide) rfl True.intro (.inr rfl)) put_ne (sim_not (sim_tB (sim_call0 (rr := .fz) (sim_cons (sim_el elS_get (sim_var (r := .sh) rfl True.intro (fun _ h => nomatch h)) (sim_var (r := .fz) rfl True.intro (fun _ h => nomatch h)) True.intro) sim_nil True.intro) (by simp [TL.Args, TL.Arg]) True.intro))) (SimE.fz0 (sim_var (r := .fz) rfl True.intro (fun _ h => nomatch h))))) sim_nopart (sim_part (sim_c Rep0.int)) True.intro)))) True.intro rfl h
theorem ok_is_items {f : Addr} {fd : FuncData} {k : Nat} (F : L2.Fun K "is_items" "is_items" s_is_items f fd) (g : mg "is_items" = some (.ref f)) (B : Bs K mg)  : C8.Cal P w K mg base (k + 1) "is_items" (spT (gm K w) [.sh] (.fz) f_is_items) [] := by
  refine calT F g sc_is_items (F.binds (ps := P_is_items) fun _ _ _ _ _ _ us hl => match us, hl with | [_], _ => rfl) rfl fun cdv A outer s H Q E vs hr h => ?_
  refine ⟨_, (pss_one (ps_ret (pe_callB (isiU2 (Γ := gm K w) rfl) rfl B.b_isinstance (by decide +kernel) (pa_cons (pv 0) (pa_cons (pe_tup (pa_cons (pe_bltn (v := .ty "list") rfl B.b_list (by decide +kernel) rfl) (pa_cons (pe_bltn (v := .ty "tuple") rfl B.b_tuple (by decide +kernel) rfl) pa_nil))) pa_nil))))), ?_⟩
  exact body_sim (Γ := gm K w) (pms := [.sh]) (lms := []) (rr := .fz) (s := st_is_items) (sim_ret (sim_isa2 kit_list kit_tuple (sim_var (r := .sh) rfl True.intro (fun _ h => nomatch h)))) True.intro rfl h
theorem ok_is_name {f : Addr} {fd : FuncData} {k : Nat} (F : L2.Fun K "is_name" "is_name" s_is_name f fd) (g : mg "is_name" = some (.ref f)) (B : Bs K mg)  : C8.Cal P w K mg base (k + 1) "is_name" (spT (gm K w) [.sh] (.fz) f_is_name) [] := by
  refine calT F g sc_is_name (F.binds (ps := P_is_name) fun _ _ _ _ _ _ us hl => match us, hl with | [_], _ => rfl) rfl fun cdv A outer s H Q E vs hr h => ?_
  refine ⟨_, (pss_cons (ps_if (PW.pt (pw_or (pt_not (pt_val (pe_callB (isiU1 (Γ := gm K w) rfl) rfl B.b_isinstance (by decide +kernel) (pa_cons (pv 0) (pa_cons (pe_bltn (v := .ty "str") rfl B.b_str (by decide +kernel) rfl) pa_nil))))) (pw_or1 (pt_not (pt_chain op_le op_le pe_int (pe_callB (lenU (Γ := gm K w) rfl) rfl B.b_len (by decide +kernel) (pa_cons (pv 0) pa_nil)) pe_int))))) (pss_one (ps_ret pe_bl)) pss_nil)
      (pss_cons (ps_for PassesOwn.never rfl (piU (Γ := gm K w) rfl rfl (pv 0)) (pg_name (i := 1) sc_is_name.nd rfl (.inl rfl))
      (pss_one (ps_if (pt_cmpR (opU_notIn (Γ := gm K w) (uu9 hr) rfl rfl) (pv 1) (C8.pe_gc rfl B.x_LETTERS) (by rfl)) (pss_one (ps_ret pe_bl)) pss_nil)))
      (pss_one (ps_ret pe_bl)))), ?_⟩
  exact body_sim (Γ := gm K w) (pms := [.sh]) (lms := [.sh]) (rr := .fz) (s := st_is_name) (sim_seq (sim_ifS (sim_or (sim_not (sim_tB (sim_isa1 kit_str (sim_var (r := .sh) rfl True.intro (fun _ h => nomatch h))))) (sim_not (sim_test (sim_chain opS_le opS_le (sim_c Rep0.int) (sim_cb callS_len (sim_cons (sim_var (r := .sh) rfl True.intro (fun _ h => nomatch h)) sim_nil True.intro) True.intro) (sim_c Rep0.int) True.intro True.intro)))) (sim_ret (sim_c Rep0.bl)) sim_next)
      (sim_seq (sim_for (sim_iU (sim_var (r := .sh) rfl True.intro (fun _ h => nomatch h)) (.inl rfl)) (sim_gname rfl True.intro (.inl rfl)) (sim_ifS (sim_test (sim_op opS_notIn (sim_var (r := .sh) rfl True.intro (fun _ h => nomatch h)) (sim_c Rep0.str) True.intro)) (sim_ret (sim_c Rep0.bl)) sim_next) put_ne)
      (sim_ret (sim_c Rep0.bl)))) True.intro rfl h
theorem ok_is_edit {f : Addr} {fd : FuncData} {k : Nat} (F : L2.Fun K "is_edit" "is_edit" s_is_edit f fd) (g : mg "is_edit" = some (.ref f)) (B : Bs K mg) (c_is_name : C8.Cal P w K mg base k "is_name" (spT (gm K w) [.sh] (.fz) f_is_name) []) : C8.Cal P w K mg base (k + 1) "is_edit" (spT (gm K w) [.sh] (.fz) f_is_edit) [] := by
  refine calT F g sc_is_edit (F.binds (ps := P_is_edit) fun _ _ _ _ _ _ us hl => match us, hl with | [_], _ => rfl) rfl fun cdv A outer s H Q E vs hr h => ?_
  refine ⟨_, (pss_cons (ps_if (PW.pt (pw_or (pt_not (pt_val (pe_callB (isiU1 (Γ := gm K w) rfl) rfl B.b_isinstance (by decide +kernel) (pa_cons (pv 0) (pa_cons (pe_bltn (v := .ty "tuple") rfl B.b_tuple (by decide +kernel) rfl) pa_nil))))) (pw_or1 (pt_not (pt_chain op_le op_le pe_int (pe_callB (lenU (Γ := gm K w) rfl) rfl B.b_len (by decide +kernel) (pa_cons (pv 0) pa_nil)) pe_int))))) (pss_one (ps_ret pe_bl)) pss_nil)
      (pss_cons (ps_if (PW.pt (pw_or (pt_not (pt_val (pe_callB (isiU1 (Γ := gm K w) rfl) rfl B.b_isinstance (by decide +kernel) (pa_cons (pe_ix (ixU (Γ := gm K w) (uu9 hr) rfl rfl) (pv 0) pe_int (fun _ _ => rfl)) (pa_cons (pe_bltn (v := .ty "str") rfl B.b_str (by decide +kernel) rfl) pa_nil))))) (pw_or1 (pt_not (pt_val (C8.pe_c c_is_name hr (by omega) rfl (pa_cons (pe_ix (ixU (Γ := gm K w) (uu9 hr) rfl rfl) (pv 0) pe_int (fun _ _ => rfl)) pa_nil))))))) (pss_one (ps_ret pe_bl)) pss_nil)
      (pss_cons (ps_if (pt_cmpR (opU_eq (Γ := gm K w) rfl (uu64 hr)) (pe_callB (lenU (Γ := gm K w) rfl) rfl B.b_len (by decide +kernel) (pa_cons (pv 0) pa_nil)) pe_int (by rfl)) (pss_one (ps_ret (pe_cmpR (opU_in (Γ := gm K w) (uu9 hr) rfl rfl) (pe_ix (ixU (Γ := gm K w) (uu9 hr) rfl rfl) (pv 0) pe_int (fun _ _ => rfl)) (pe_tup (pa_cons pe_str (pa_cons pe_str (pa_cons pe_str pa_nil)))) (by rfl)))) pss_nil)
      (pss_one (ps_ret (pe_and (pe_cmpR (opU_eq (Γ := gm K w) rfl (uu64 hr)) (pe_ix (ixU (Γ := gm K w) (uu9 hr) rfl rfl) (pv 0) pe_int (fun _ _ => rfl)) pe_str (by rfl)) (pe_and (C8.pe_c c_is_name hr (by omega) rfl (pa_cons (pe_ix (ixU (Γ := gm K w) (uu9 hr) rfl rfl) (pv 0) pe_int (fun _ _ => rfl)) pa_nil)) (pe_one (pe_cmpR (opU_ne (Γ := gm K w) rfl (uu64 hr)) (pe_ix (ixU (Γ := gm K w) (uu9 hr) rfl rfl) (pv 0) pe_int (fun _ _ => rfl)) (pe_ix (ixU (Γ := gm K w) (uu9 hr) rfl rfl) (pv 0) pe_int (fun _ _ => rfl)) (by rfl)))))))))), ?_⟩
  exact body_sim (Γ := gm K w) (pms := [.sh]) (lms := []) (rr := .fz) (s := st_is_edit) (sim_seq (sim_ifS (sim_or (sim_not (sim_tB (sim_isa1 kit_tuple (sim_var (r := .sh) rfl True.intro (fun _ h => nomatch h))))) (sim_not (sim_test (sim_chain opS_le opS_le (sim_c Rep0.int) (sim_cb callS_len (sim_cons (sim_var (r := .sh) rfl True.intro (fun _ h => nomatch h)) sim_nil True.intro) True.intro) (sim_c Rep0.int) True.intro True.intro)))) (sim_ret (sim_c Rep0.bl)) sim_next)
      (sim_seq (sim_ifS (sim_or (sim_not (sim_tB (sim_isa1 kit_str (sim_el elS_get (sim_var (r := .sh) rfl True.intro (fun _ h => nomatch h)) (sim_c Rep0.int) True.intro)))) (sim_not (sim_tB (sim_call0 (rr := .fz) (sim_cons (sim_el elS_get (sim_var (r := .sh) rfl True.intro (fun _ h => nomatch h)) (sim_c Rep0.int) True.intro) sim_nil True.intro) (by simp [TL.Args, TL.Arg]) True.intro)))) (sim_ret (sim_c Rep0.bl)) sim_next)
      (sim_seq (sim_ifS (sim_test (sim_op opS_eq (sim_cb callS_len (sim_cons (sim_var (r := .sh) rfl True.intro (fun _ h => nomatch h)) sim_nil True.intro) True.intro) (sim_c Rep0.int) True.intro)) (sim_ret (sim_op opS_in (sim_el elS_get (sim_var (r := .sh) rfl True.intro (fun _ h => nomatch h)) (sim_c Rep0.int) True.intro) (sim_tup_fz (sim_cons (sim_c Rep0.str) (sim_cons (sim_c Rep0.str) (sim_cons (sim_c Rep0.str) sim_nil True.intro) True.intro) True.intro) (by simp [All])) True.intro)) sim_next)
      (sim_ret (sim_andV (sim_op opS_eq (sim_el elS_get (sim_var (r := .sh) rfl True.intro (fun _ h => nomatch h)) (sim_c Rep0.int) True.intro) (sim_c Rep0.str) True.intro) (sim_andV (sim_call0 (rr := .fz) (sim_cons (sim_el elS_get (sim_var (r := .sh) rfl True.intro (fun _ h => nomatch h)) (sim_c Rep0.int) True.intro) sim_nil True.intro) (by simp [TL.Args, TL.Arg]) True.intro) (sim_op opS_ne (sim_el elS_get (sim_var (r := .sh) rfl True.intro (fun _ h => nomatch h)) (sim_c Rep0.int) True.intro) (sim_el elS_get (sim_var (r := .sh) rfl True.intro (fun _ h => nomatch h)) (sim_c Rep0.int) True.intro) True.intro))))))) True.intro rfl h
theorem ok_bad_edit {f : Addr} {fd : FuncData} {k : Nat} (F : L2.Fun K "bad_edit" "bad_edit" s_bad_edit f fd) (g : mg "bad_edit" = some (.ref f)) (B : Bs K mg) (c_is_items : C8.Cal P w K mg base k "is_items" (spT (gm K w) [.sh] (.fz) f_is_items) []) (c_is_edit : C8.Cal P w K mg base k "is_edit" (spT (gm K w) [.sh] (.fz) f_is_edit) []) : C8.Cal P w K mg base (k + 1) "bad_edit" (spT (gm K w) [.sh] (.fz) f_bad_edit) [] := by
  refine calT F g sc_bad_edit (F.binds (ps := P_bad_edit) fun _ _ _ _ _ _ us hl => match us, hl with | [_], _ => rfl) rfl fun cdv A outer s H Q E vs hr h => ?_
  refine ⟨_, (pss_cons (ps_if (PW.pt (pw_or (pt_not (pt_val (C8.pe_c c_is_items hr (by omega) rfl (pa_cons (pv 0) pa_nil)))) (pw_or1 (pt_cmpR op_gt (pe_callB (lenU (Γ := gm K w) rfl) rfl B.b_len (by decide +kernel) (pa_cons (pv 0) pa_nil)) (C8.pe_gc rfl B.x_MOST_EDITS) (by rfl))))) (pss_one (ps_ret (pe_un un_neg pe_int))) pss_nil)
      (pss_cons (ps_for PassesOwn.never rfl (k_penum K rfl B.b_enumerate (pa_cons (pv 0) pa_nil)) (k_ptup K 2 rfl (pgs_cons (pg_name (i := 1) sc_bad_edit.nd rfl (.inl rfl)) (pgs_cons (pg_name (i := 2) sc_bad_edit.nd rfl (.inl rfl)) pgs_nil)))
      (pss_one (ps_if (pt_not (pt_val (C8.pe_c c_is_edit hr (by omega) rfl (pa_cons (pv 2) pa_nil)))) (pss_one (ps_ret (pv 1))) pss_nil)))
      (pss_one (ps_ret pe_non)))), ?_⟩
  exact body_sim (Γ := gm K w) (pms := [.sh]) (lms := [.sh, .sh]) (rr := .fz) (s := st_bad_edit) (sim_seq (sim_ifS (sim_or (sim_not (sim_tB (sim_call0 (rr := .fz) (sim_cons (sim_var (r := .sh) rfl True.intro (fun _ h => nomatch h)) sim_nil True.intro) (by simp [TL.Args, TL.Arg]) True.intro))) (sim_test (sim_op opS_gt (sim_cb callS_len (sim_cons (sim_var (r := .sh) rfl True.intro (fun _ h => nomatch h)) sim_nil True.intro) True.intro) (sim_c Rep0.int) True.intro))) (sim_ret (sim_neg (sim_c Rep0.int))) sim_next)
      (sim_seq (sim_for (sim_enum (sim_var (r := .sh) rfl True.intro (fun _ h => nomatch h)) (.inl rfl)) (sim_gtup (.inl rfl) rfl (sim_gcons rfl True.intro (.inl rfl) (sim_gcons rfl True.intro (.inl rfl) sim_gnil))) (sim_ifS (sim_not (sim_tB (sim_call0 (rr := .fz) (sim_cons (sim_var (r := .sh) rfl True.intro (fun _ h => nomatch h)) sim_nil True.intro) (by simp [TL.Args, TL.Arg]) True.intro))) (sim_ret (SimE.imm (sim_var (r := .sh) rfl True.intro (fun _ h => nomatch h)))) sim_next) putT_ne)
      (sim_ret (sim_c Rep0.non)))) True.intro rfl h
theorem ok_need_script {f : Addr} {fd : FuncData} {k : Nat} (F : L2.Fun K "need_script" "need_script" s_need_script f fd) (g : mg "need_script" = some (.ref f)) (B : Bs K mg) (Y : TL.Xs P K mg (He.ga K) clsX hsX issX) (hk2 : 2 ≤ k) (c_bad_edit : C8.Cal P w K mg base k "bad_edit" (spT (gm K w) [.sh] (.fz) f_bad_edit) []) : CalX P w K mg base (k + 1) "need_script" (spT (gm K w) [.sh] (.fz) f_need_script) := by
  refine calTX F g sc_need_script (F.binds (ps := P_need_script) fun _ _ _ _ _ _ us hl => match us, hl with | [_], _ => rfl) rfl fun cdv A outer s H Q E vs hr h => ?_
  have tk : Takes (cxOf (L2.CX P w) P w K mg base N_need_script "need_script" (defScope s_need_script) f cdv A outer s H E) (wx fun _ => E) := takes_of rfl rfl rfl rfl
  refine ⟨_, (pss_cons (ps_set (i := 1) sc_need_script.nd rfl (.inl rfl) (C8.pe_c c_bad_edit hr (by omega) rfl (pa_cons (pv 0) pa_nil)))
      (pss_one (ps_if (pt_cmpR o_notN (pv 1) pe_non (by rfl)) (pss_one (ps_rs (xe_BadScript Y) rfl tk (hr.mono hk2) rfl (xg_BadScript Y) (pa_cons (pv 1) pa_nil))) pss_nil))), ?_⟩
  exact body_simX (Γ := gm K w) (pms := [.sh]) (lms := [(.own 0)]) (rr := .fz) (s := st_need_script) (sim_seq (sim_set (sim_call0 (rr := .fz) (sim_cons (sim_var (r := .sh) rfl True.intro (fun _ h => nomatch h)) sim_nil True.intro) (by simp [TL.Args, TL.Arg]) True.intro) rfl True.intro)
      (sim_ifS (sim_test (sim_op opS_notN (sim_var (r := .fz) rfl True.intro (fun _ h => nomatch h)) (sim_c Rep0.non) True.intro)) (sim_raise (c := (PySem.Str.ofString "BadScript")) (sim_cons (sim_var (r := .fz) rfl True.intro (fun _ h => nomatch h)) sim_nil True.intro) (by decide)) sim_next)) True.intro rfl h
theorem ok_source {f : Addr} {fd : FuncData} {k : Nat} (F : L2.Fun K "source" "source" s_source f fd) (g : mg "source" = some (.ref f)) (B : Bs K mg) (hk2 : 2 ≤ k) (c_need_script : CalX P w K mg base k "need_script" (spT (gm K w) [.sh] (.fz) f_need_script)) : CalX P w K mg base (k + 1) "source" (spT (gm K w) [.sh] (.fz) f_source) := by
  refine calTX F g sc_source (F.binds (ps := P_source) fun _ _ _ _ _ _ us hl => match us, hl with | [_], _ => rfl) rfl fun cdv A outer s H Q E vs hr h => ?_
  have tk : Takes (cxOf (L2.CX P w) P w K mg base N_source "source" (defScope s_source) f cdv A outer s H E) (wx fun _ => E) := takes_of rfl rfl rfl rfl
  refine ⟨_, (pss_cons (ps_expr (pe_cX c_need_script hr (by omega) rfl tk (pa_cons (pv 0) pa_nil)))
      (pss_one (ps_ret (pe_callTy (k_tuple_of K) rfl B.b_tuple (by decide +kernel) (pa_cons (pe_lc (own := [("edit", 1)]) rfl sc_source.nd (piU (Γ := gm K w) rfl rfl (pv 0)) (blkOk_by (own := [("edit", 1)]) (N := N_source) (sc := defScope s_source) (by decide +kernel)) (fun _ _ _ _ _ => (pg_name (i := 1) sc_source.nd rfl (.inl rfl))) (fun _ _ _ _ _ => (pts_one (pt_cmpR (opU_ne (Γ := gm K w) rfl (uu64 hr)) (pe_ix (ixU (Γ := gm K w) (uu9 hr) rfl rfl) (pv 1) pe_int (fun _ _ => rfl)) pe_str (by rfl)))) (fun _ _ _ _ _ => (pe_ix (ixU (Γ := gm K w) (uu9 hr) rfl rfl) (pv 1) pe_int (fun _ _ => rfl)))) pa_nil))))), ?_⟩
  exact body_simX (Γ := gm K w) (pms := [.sh]) (lms := [.sh]) (rr := .fz) (s := st_source) (sim_seq (sim_drop (sim_call0 (rr := .fz) (sim_cons (sim_var (r := .sh) rfl True.intro (fun _ h => nomatch h)) sim_nil True.intro) (by simp [TL.Args, TL.Arg]) True.intro))
      (sim_ret (sim_tupOf (sim_cons (SimE.frz (sim_lc (by decide) (sim_iU (sim_var (r := .sh) rfl True.intro (fun _ h => nomatch h)) (.inl rfl)) (sim_gvname (by decide) rfl True.intro (.inl rfl)) put_ne (sim_test (sim_op opS_ne (sim_el elS_get (sim_var (r := .sh) rfl True.intro (fun _ h => nomatch h)) (sim_c Rep0.int) True.intro) (sim_c Rep0.str) True.intro)) (SimE.fz0 (SimE.imm (sim_el elS_get (sim_var (r := .sh) rfl True.intro (fun _ h => nomatch h)) (sim_c Rep0.int) True.intro))))) sim_nil True.intro) True.intro))) True.intro rfl h
theorem ok_target {f : Addr} {fd : FuncData} {k : Nat} (F : L2.Fun K "target" "target" s_target f fd) (g : mg "target" = some (.ref f)) (B : Bs K mg) (hk2 : 2 ≤ k) (c_need_script : CalX P w K mg base k "need_script" (spT (gm K w) [.sh] (.fz) f_need_script)) : CalX P w K mg base (k + 1) "target" (spT (gm K w) [.sh] (.fz) f_target) := by
  refine calTX F g sc_target (F.binds (ps := P_target) fun _ _ _ _ _ _ us hl => match us, hl with | [_], _ => rfl) rfl fun cdv A outer s H Q E vs hr h => ?_
  have tk : Takes (cxOf (L2.CX P w) P w K mg base N_target "target" (defScope s_target) f cdv A outer s H E) (wx fun _ => E) := takes_of rfl rfl rfl rfl
  refine ⟨_, (pss_cons (ps_expr (pe_cX c_need_script hr (by omega) rfl tk (pa_cons (pv 0) pa_nil)))
      (pss_one (ps_ret (pe_callTy (k_tuple_of K) rfl B.b_tuple (by decide +kernel) (pa_cons (pe_lc (own := [("edit", 1)]) rfl sc_target.nd (piU (Γ := gm K w) rfl rfl (pv 0)) (blkOk_by (own := [("edit", 1)]) (N := N_target) (sc := defScope s_target) (by decide +kernel)) (fun _ _ _ _ _ => (pg_name (i := 1) sc_target.nd rfl (.inl rfl))) (fun _ _ _ _ _ => (pts_one (pt_cmpR (opU_ne (Γ := gm K w) rfl (uu64 hr)) (pe_ix (ixU (Γ := gm K w) (uu9 hr) rfl rfl) (pv 1) pe_int (fun _ _ => rfl)) pe_str (by rfl)))) (fun _ _ _ _ _ => (pe_ix (ixU (Γ := gm K w) (uu9 hr) rfl rfl) (pv 1) (pe_un un_neg pe_int) (fun _ _ => rfl)))) pa_nil))))), ?_⟩
  exact body_simX (Γ := gm K w) (pms := [.sh]) (lms := [.sh]) (rr := .fz) (s := st_target) (sim_seq (sim_drop (sim_call0 (rr := .fz) (sim_cons (sim_var (r := .sh) rfl True.intro (fun _ h => nomatch h)) sim_nil True.intro) (by simp [TL.Args, TL.Arg]) True.intro))
      (sim_ret (sim_tupOf (sim_cons (SimE.frz (sim_lc (by decide) (sim_iU (sim_var (r := .sh) rfl True.intro (fun _ h => nomatch h)) (.inl rfl)) (sim_gvname (by decide) rfl True.intro (.inl rfl)) put_ne (sim_test (sim_op opS_ne (sim_el elS_get (sim_var (r := .sh) rfl True.intro (fun _ h => nomatch h)) (sim_c Rep0.int) True.intro) (sim_c Rep0.str) True.intro)) (SimE.fz0 (SimE.imm (sim_el elS_get (sim_var (r := .sh) rfl True.intro (fun _ h => nomatch h)) (sim_neg (sim_c Rep0.int)) True.intro))))) sim_nil True.intro) True.intro))) True.intro rfl h
theorem ok_cost {f : Addr} {fd : FuncData} {k : Nat} (F : L2.Fun K "cost" "cost" s_cost f fd) (g : mg "cost" = some (.ref f)) (B : Bs K mg) (hk2 : 2 ≤ k) (c_need_script : CalX P w K mg base k "need_script" (spT (gm K w) [.sh] (.fz) f_need_script)) : CalX P w K mg base (k + 1) "cost" (spT (gm K w) [.sh] (.fz) f_cost) := by
  refine calTX F g sc_cost (F.binds (ps := P_cost) fun _ _ _ _ _ _ us hl => match us, hl with | [_], _ => rfl) rfl fun cdv A outer s H Q E vs hr h => ?_
  have tk : Takes (cxOf (L2.CX P w) P w K mg base N_cost "cost" (defScope s_cost) f cdv A outer s H E) (wx fun _ => E) := takes_of rfl rfl rfl rfl
  refine ⟨_, (pss_cons (ps_expr (pe_cX c_need_script hr (by omega) rfl tk (pa_cons (pv 0) pa_nil)))
      (pss_one (ps_ret (pe_callB (lenU (Γ := gm K w) rfl) rfl B.b_len (by decide +kernel) (pa_cons (pe_lc (own := [("edit", 1)]) rfl sc_cost.nd (piU (Γ := gm K w) rfl rfl (pv 0)) (blkOk_by (own := [("edit", 1)]) (N := N_cost) (sc := defScope s_cost) (by decide +kernel)) (fun _ _ _ _ _ => (pg_name (i := 1) sc_cost.nd rfl (.inl rfl))) (fun _ _ _ _ _ => (pts_one (pt_cmpR (opU_ne (Γ := gm K w) rfl (uu64 hr)) (pe_ix (ixU (Γ := gm K w) (uu9 hr) rfl rfl) (pv 1) pe_int (fun _ _ => rfl)) pe_str (by rfl)))) (fun _ _ _ _ _ => (pv 1))) pa_nil))))), ?_⟩
  exact body_simX (Γ := gm K w) (pms := [.sh]) (lms := [.sh]) (rr := .fz) (s := st_cost) (sim_seq (sim_drop (sim_call0 (rr := .fz) (sim_cons (sim_var (r := .sh) rfl True.intro (fun _ h => nomatch h)) sim_nil True.intro) (by simp [TL.Args, TL.Arg]) True.intro))
      (sim_ret (sim_cb callS_len (sim_cons (SimE.frz (sim_lc (by decide) (sim_iU (sim_var (r := .sh) rfl True.intro (fun _ h => nomatch h)) (.inl rfl)) (sim_gvname (by decide) rfl True.intro (.inl rfl)) put_ne (sim_test (sim_op opS_ne (sim_el elS_get (sim_var (r := .sh) rfl True.intro (fun _ h => nomatch h)) (sim_c Rep0.int) True.intro) (sim_c Rep0.str) True.intro)) (SimE.fz0 (SimE.imm (sim_var (r := .sh) rfl True.intro (fun _ h => nomatch h)))))) sim_nil True.intro) True.intro))) True.intro rfl h
theorem ok_is_integer {f : Addr} {fd : FuncData} {k : Nat} (F : L2.Fun K "is_integer" "is_integer" s_is_integer f fd) (g : mg "is_integer" = some (.ref f)) (B : Bs K mg)  : C8.Cal P w K mg base (k + 1) "is_integer" (spT (gm K w) [.sh] (.fz) f_is_integer) [] := by
  refine calT F g sc_is_integer (F.binds (ps := P_is_integer) fun _ _ _ _ _ _ us hl => match us, hl with | [_], _ => rfl) rfl fun cdv A outer s H Q E vs hr h => ?_
  refine ⟨_, (pss_one (ps_ret (pe_and (pe_callB (isiU1 (Γ := gm K w) rfl) rfl B.b_isinstance (by decide +kernel) (pa_cons (pv 0) (pa_cons (pe_bltn (v := .ty "int") rfl B.b_int (by decide +kernel) rfl) pa_nil))) (pe_one (pe_not (pe_callB (isiU1 (Γ := gm K w) rfl) rfl B.b_isinstance (by decide +kernel) (pa_cons (pv 0) (pa_cons (pe_bltn (v := .ty "bool") rfl B.b_bool (by decide +kernel) rfl) pa_nil)))))))), ?_⟩
  exact body_sim (Γ := gm K w) (pms := [.sh]) (lms := []) (rr := .fz) (s := st_is_integer) (sim_ret (sim_andV (sim_isa1 kit_int (sim_var (r := .sh) rfl True.intro (fun _ h => nomatch h))) (sim_notV (sim_isa1 kit_bool (sim_var (r := .sh) rfl True.intro (fun _ h => nomatch h)))))) True.intro rfl h
theorem ok_is_within {f : Addr} {fd : FuncData} {k : Nat} (F : L2.Fun K "is_within" "is_within" s_is_within f fd) (g : mg "is_within" = some (.ref f)) (B : Bs K mg) (c_is_integer : C8.Cal P w K mg base k "is_integer" (spT (gm K w) [.sh] (.fz) f_is_integer) []) : C8.Cal P w K mg base (k + 1) "is_within" (spT (gm K w) [.sh, .sh, .sh] (.fz) f_is_within) [] := by
  refine calT F g sc_is_within (F.binds (ps := P_is_within) fun _ _ _ _ _ _ us hl => match us, hl with | [_, _, _], _ => rfl) rfl fun cdv A outer s H Q E vs hr h => ?_
  refine ⟨_, (pss_one (ps_ret (pe_and (C8.pe_c c_is_integer hr (by omega) rfl (pa_cons (pv 0) pa_nil)) (pe_one (pe_chain op_le op_le (pv 1) (pv 0) (pv 2)))))), ?_⟩
  exact body_sim (Γ := gm K w) (pms := [.sh, .sh, .sh]) (lms := []) (rr := .fz) (s := st_is_within) (sim_ret (sim_andV (sim_call0 (rr := .fz) (sim_cons (sim_var (r := .sh) rfl True.intro (fun _ h => nomatch h)) sim_nil True.intro) (by simp [TL.Args, TL.Arg]) True.intro) (sim_chain opS_le opS_le (sim_var (r := .sh) rfl True.intro (fun _ h => nomatch h)) (sim_var (r := .sh) rfl True.intro (fun _ h => nomatch h)) (sim_var (r := .sh) rfl True.intro (fun _ h => nomatch h)) True.intro True.intro))) True.intro rfl h
theorem ok_need_within {f : Addr} {fd : FuncData} {k : Nat} (F : L2.Fun K "need_within" "need_within" s_need_within f fd) (g : mg "need_within" = some (.ref f)) (B : Bs K mg) (Y : TL.Xs P K mg (He.ga K) clsX hsX issX) (hk2 : 2 ≤ k) (c_is_within : C8.Cal P w K mg base k "is_within" (spT (gm K w) [.sh, .sh, .sh] (.fz) f_is_within) []) : CalX P w K mg base (k + 1) "need_within" (spT (gm K w) [.sh, .sh, .sh] (.fz) f_need_within) := by
  refine calTX F g sc_need_within (F.binds (ps := P_need_within) fun _ _ _ _ _ _ us hl => match us, hl with | [_, _, _], _ => rfl) rfl fun cdv A outer s H Q E vs hr h => ?_
  have tk : Takes (cxOf (L2.CX P w) P w K mg base N_need_within "need_within" (defScope s_need_within) f cdv A outer s H E) (wx fun _ => E) := takes_of rfl rfl rfl rfl
  refine ⟨_, (pss_one (ps_if (pt_not (pt_val (C8.pe_c c_is_within hr (by omega) rfl (pa_cons (pv 0) (pa_cons (pv 1) (pa_cons (pv 2) pa_nil)))))) (pss_one (ps_rs0 (x0_NoNumber Y) rfl tk rfl (xg_NoNumber Y))) pss_nil)), ?_⟩
  exact body_simX (Γ := gm K w) (pms := [.sh, .sh, .sh]) (lms := []) (rr := .fz) (s := st_need_within) (sim_ifS (sim_not (sim_tB (sim_call0 (rr := .fz) (sim_cons (sim_var (r := .sh) rfl True.intro (fun _ h => nomatch h)) (sim_cons (sim_var (r := .sh) rfl True.intro (fun _ h => nomatch h)) (sim_cons (sim_var (r := .sh) rfl True.intro (fun _ h => nomatch h)) sim_nil True.intro) True.intro) True.intro) (by simp [TL.Args, TL.Arg]) True.intro))) (sim_raise0 (c := (PySem.Str.ofString "NoNumber"))) sim_next) True.intro rfl h
theorem ok_turned {f : Addr} {fd : FuncData} {k : Nat} (F : L2.Fun K "turned" "turned" s_turned f fd) (g : mg "turned" = some (.ref f)) (B : Bs K mg) (hk2 : 2 ≤ k) (c_need_script : CalX P w K mg base k "need_script" (spT (gm K w) [.sh] (.fz) f_need_script)) (c_need_within : CalX P w K mg base k "need_within" (spT (gm K w) [.sh, .sh, .sh] (.fz) f_need_within)) : CalX P w K mg base (k + 1) "turned" (spT (gm K w) [.sh, .sh, .sh, .sh] ((.own 1)) f_turned) := by
  refine calTX F g sc_turned (F.binds (ps := P_turned) fun _ _ _ _ _ _ us hl => match us, hl with | [_, _, _, _], _ => rfl) rfl fun cdv A outer s H Q E vs hr h => ?_
  have tk : Takes (cxOf (L2.CX P w) P w K mg base N_turned "turned" (defScope s_turned) f cdv A outer s H E) (wx fun _ => E) := takes_of rfl rfl rfl rfl
  refine ⟨_, (pss_cons (ps_for (passes_of rfl) rfl (piU (Γ := gm K w) rfl rfl (pe_tup (pa_cons (pv 0) (pa_cons (pv 1) (pa_cons (pv 2) pa_nil))))) (pg_name (i := 4) sc_turned.nd rfl (.inl rfl))
      (pss_one (ps_expr (pe_cX c_need_script hr (by omega) rfl tk (pa_cons (pv 4) pa_nil)))))
      (pss_cons (ps_expr (pe_cX c_need_within hr (by omega) rfl tk (pa_cons (pv 3) (pa_cons pe_int (pa_cons pe_int pa_nil)))))
      (pss_cons (ps_if (pt_cmpR op_gt (pe_op opU_add (pe_op opU_add (pe_callB (lenU (Γ := gm K w) rfl) rfl B.b_len (by decide +kernel) (pa_cons (pv 0) pa_nil)) (pe_op op_mul (pv 3) (pe_callB (lenU (Γ := gm K w) rfl) rfl B.b_len (by decide +kernel) (pa_cons (pv 1) pa_nil)))) (pe_callB (lenU (Γ := gm K w) rfl) rfl B.b_len (by decide +kernel) (pa_cons (pv 2) pa_nil))) (C8.pe_gc rfl B.x_MOST_TURNED) (by rfl)) (pss_one ps_never) pss_nil)
      (pss_one (ps_ret (pe_lst (k_star K (pv 0) (k_star K (pe_op op_rep (pe_callTy (listU (Γ := gm K w) rfl rfl) rfl B.b_list (by decide +kernel) (pa_cons (pv 1) pa_nil)) (pv 3)) (k_star K (pv 2) pa_nil))))))))), ?_⟩
  exact body_simX (Γ := gm K w) (pms := [.sh, .sh, .sh, .sh]) (lms := [.sh]) (rr := (.own 1)) (s := st_turned) (sim_seq (sim_for (sim_iU (sim_tup_sh (sim_cons (sim_var (r := .sh) rfl True.intro (fun _ h => nomatch h)) (sim_cons (sim_var (r := .sh) rfl True.intro (fun _ h => nomatch h)) (sim_cons (sim_var (r := .sh) rfl True.intro (fun _ h => nomatch h)) sim_nil True.intro) True.intro) True.intro) True.intro) (.inl rfl)) (sim_gname rfl True.intro (.inl rfl)) (sim_drop (sim_call0 (rr := .fz) (sim_cons (sim_var (r := .sh) rfl True.intro (fun _ h => nomatch h)) sim_nil True.intro) (by simp [TL.Args, TL.Arg]) True.intro)) put_ne)
      (sim_seq (sim_drop (sim_call0 (rr := .fz) (sim_cons (sim_var (r := .sh) rfl True.intro (fun _ h => nomatch h)) (sim_cons (sim_c Rep0.int) (sim_cons (sim_c Rep0.int) sim_nil True.intro) True.intro) True.intro) (by simp [TL.Args, TL.Arg]) True.intro))
      (sim_seq (sim_ifS (sim_test (sim_op opS_gt (sim_op opS_add (sim_op opS_add (sim_cb callS_len (sim_cons (sim_var (r := .sh) rfl True.intro (fun _ h => nomatch h)) sim_nil True.intro) True.intro) (sim_op opS_mul (sim_var (r := .sh) rfl True.intro (fun _ h => nomatch h)) (sim_cb callS_len (sim_cons (sim_var (r := .sh) rfl True.intro (fun _ h => nomatch h)) sim_nil True.intro) True.intro) True.intro) True.intro) (sim_cb callS_len (sim_cons (sim_var (r := .sh) rfl True.intro (fun _ h => nomatch h)) sim_nil True.intro) True.intro) True.intro) (sim_c Rep0.int) True.intro)) sim_never sim_next)
      (sim_ret (sim_lstF (sim_starI (sim_var (r := .sh) rfl True.intro (fun _ h => nomatch h)) (sim_starF (SimE.frz (sim_rep (sim_new_imm newS_list (sim_cons (sim_var (r := .sh) rfl True.intro (fun _ h => nomatch h)) sim_nil True.intro) True.intro) (sim_var (r := .sh) rfl True.intro (fun _ h => nomatch h)))) (sim_starI (sim_var (r := .sh) rfl True.intro (fun _ h => nomatch h)) sim_nilF)))))))) True.intro rfl h
theorem ok__law_ask {f : Addr} {fd : FuncData} {k : Nat} (F : L2.Fun K "_law_ask" "_law_ask" s__law_ask f fd) (g : mg "_law_ask" = some (.ref f)) (B : Bs K mg) (Y : TL.Xs P K mg (He.ga K) clsX hsX issX) (c_source : CalX P w K mg base k "source" (spT (gm K w) [.sh] (.fz) f_source)) (c_target : CalX P w K mg base k "target" (spT (gm K w) [.sh] (.fz) f_target)) (c_cost : CalX P w K mg base k "cost" (spT (gm K w) [.sh] (.fz) f_cost)) (c_turned : CalX P w K mg base k "turned" (spT (gm K w) [.sh, .sh, .sh, .sh] ((.own 1)) f_turned)) : C8.Cal P w K mg base (k + 1) "_law_ask" (spT (gm K w) [.sh, .sh] (.fz) f__law_ask) [] := by
  refine calT F g sc__law_ask (F.binds (ps := P__law_ask) fun _ _ _ _ _ _ us hl => match us, hl with | [_, _], _ => rfl) rfl fun cdv A outer s H Q E vs hr h => ?_
  refine ⟨_, (pss_cons (ps_try rfl rfl sc__law_ask.nd TL.tk0 (fun W pn xe tk hpo => (pss_cons (ps_if (pt_cmpR (opU_eq (Γ := gm K w) rfl (uu64 hr)) (pv 0) pe_int (by rfl)) (pss_one (ps_expr (pe_cX c_source hr (by omega) rfl tk (pa_cons (pv 1) pa_nil)))) pss_nil)
      (pss_cons (ps_if (pt_cmpR (opU_eq (Γ := gm K w) rfl (uu64 hr)) (pv 0) pe_int (by rfl)) (pss_one (ps_expr (pe_cX c_target hr (by omega) rfl tk (pa_cons (pv 1) pa_nil)))) pss_nil)
      (pss_cons (ps_if (pt_cmpR (opU_eq (Γ := gm K w) rfl (uu64 hr)) (pv 0) pe_int (by rfl)) (pss_one (ps_expr (pe_cX c_cost hr (by omega) rfl tk (pa_cons (pv 1) pa_nil)))) pss_nil)
      (pss_cons (ps_if (pt_cmpR (opU_eq (Γ := gm K w) rfl (uu64 hr)) (pv 0) pe_int (by rfl)) (pss_one (ps_expr (pe_cX c_turned hr (by omega) rfl tk (pa_cons (pv 1) (pa_cons (pe_lst pa_nil) (pa_cons (pe_lst pa_nil) (pa_cons pe_int pa_nil))))))) pss_nil)
      (pss_cons (ps_if (pt_cmpR (opU_eq (Γ := gm K w) rfl (uu64 hr)) (pv 0) pe_int (by rfl)) (pss_one (ps_expr (pe_cX c_turned hr (by omega) rfl tk (pa_cons (pe_lst pa_nil) (pa_cons (pv 1) (pa_cons pe_int (pa_cons pe_int pa_nil))))))) pss_nil)
      (pss_one (ps_if (pt_cmpR (opU_eq (Γ := gm K w) rfl (uu64 hr)) (pv 0) pe_int (by rfl)) (pss_one (ps_expr (pe_cX c_turned hr (by omega) rfl tk (pa_cons (pe_lst pa_nil) (pa_cons (pe_tup pa_nil) (pa_cons (pv 1) (pa_cons pe_int pa_nil))))))) pss_nil)))))))) (cl_as (i := 2) (names_of rfl (xg_BadScript Y)) rfl rfl (fun a oe d pn hz hv => (pss_cons (ps_set (i := 3) sc__law_ask.nd rfl (.inl rfl) (pe_lst (pa_cons (pe_callB (call_isX (xc_BadScript Y) hz hv) rfl B.b_isinstance (by decide +kernel) (pa_cons (pv 2) (pa_cons (pe_glob (v := .ref (He.ga K "SlipError")) rfl (xg_SlipError Y) rfl) pa_nil))) (pa_cons (pe_callB (call_isX (xc_BadScript Y) hz hv) rfl B.b_isinstance (by decide +kernel) (pa_cons (pv 2) (pa_cons (pe_bltn (v := .ty "ValueError") rfl B.b_ValueError (by decide +kernel) rfl) pa_nil))) (pa_cons (pe_callB (call_isX (xc_BadScript Y) hz hv) rfl B.b_isinstance (by decide +kernel) (pa_cons (pv 2) (pa_cons (pe_glob (v := .ref (He.ga K "NoRow")) rfl (xg_NoRow Y) rfl) pa_nil))) (pa_cons (pe_callB (call_isX (xc_BadScript Y) hz hv) rfl B.b_isinstance (by decide +kernel) (pa_cons (pv 2) (pa_cons (pe_glob (v := .ref (He.ga K "NoNumber")) rfl (xg_NoNumber Y) rfl) pa_nil))) pa_nil))))))
      (pss_cons (ps_if (PW.pt (pw_or (pt_cmpR (opU_ne (Γ := gm K w) rfl (su64 hr)) (pv 3) (pe_lst (pa_cons pe_bl (pa_cons pe_bl (pa_cons pe_bl (pa_cons pe_bl pa_nil))))) (by rfl)) (pw_or1 (pt_val (pe_callB (isiU1 (Γ := gm K w) rfl) rfl B.b_isinstance (by decide +kernel) (pa_cons (pe_xf (xf_BadScript Y) (xn_BadScript_place Y) hz hv (pv 2)) (pa_cons (pe_bltn (v := .ty "bool") rfl B.b_bool (by decide +kernel) rfl) pa_nil))))))) (pss_one (ps_ret (pe_lst (pa_cons pe_str pa_nil)))) pss_nil)
      (pss_one (ps_ret (pe_lst (pa_cons (pe_xf (xf_BadScript Y) (xn_BadScript_place Y) hz hv (pv 2)) pa_nil))))))) (cl_no (names_of rfl (xg_NoNumber Y)) (fun a oe cls d pn hz hv => (pss_one (ps_ret (pe_lst (pa_cons pe_str pa_nil))))) .nil)))
      (pss_one (ps_ret (pe_lst pa_nil)))), ?_⟩
  exact body_sim (Γ := gm K w) (pms := [.sh, .sh]) (lms := [(.own 0), (.own 0)]) (rr := .fz) (s := st__law_ask) (sim_seq (sim_try (cs := csX) (fun W => (sim_seq (sim_ifS (sim_test (sim_op opS_eq (sim_var (r := .sh) rfl True.intro (fun _ h => nomatch h)) (sim_c Rep0.int) True.intro)) (sim_drop (sim_call0 (rr := .fz) (sim_cons (sim_var (r := .sh) rfl True.intro (fun _ h => nomatch h)) sim_nil True.intro) (by simp [TL.Args, TL.Arg]) True.intro)) sim_next)
      (sim_seq (sim_ifS (sim_test (sim_op opS_eq (sim_var (r := .sh) rfl True.intro (fun _ h => nomatch h)) (sim_c Rep0.int) True.intro)) (sim_drop (sim_call0 (rr := .fz) (sim_cons (sim_var (r := .sh) rfl True.intro (fun _ h => nomatch h)) sim_nil True.intro) (by simp [TL.Args, TL.Arg]) True.intro)) sim_next)
      (sim_seq (sim_ifS (sim_test (sim_op opS_eq (sim_var (r := .sh) rfl True.intro (fun _ h => nomatch h)) (sim_c Rep0.int) True.intro)) (sim_drop (sim_call0 (rr := .fz) (sim_cons (sim_var (r := .sh) rfl True.intro (fun _ h => nomatch h)) sim_nil True.intro) (by simp [TL.Args, TL.Arg]) True.intro)) sim_next)
      (sim_seq (sim_ifS (sim_test (sim_op opS_eq (sim_var (r := .sh) rfl True.intro (fun _ h => nomatch h)) (sim_c Rep0.int) True.intro)) (sim_drop (sim_call0 (rr := (.own 1)) (sim_cons (sim_var (r := .sh) rfl True.intro (fun _ h => nomatch h)) (sim_cons (SimE.frz (sim_lst sim_nil (by simp [All]))) (sim_cons (SimE.frz (sim_lst sim_nil (by simp [All]))) (sim_cons (sim_c Rep0.int) sim_nil True.intro) True.intro) True.intro) True.intro) (by simp [TL.Args, TL.Arg]) True.intro)) sim_next)
      (sim_seq (sim_ifS (sim_test (sim_op opS_eq (sim_var (r := .sh) rfl True.intro (fun _ h => nomatch h)) (sim_c Rep0.int) True.intro)) (sim_drop (sim_call0 (rr := (.own 1)) (sim_cons (SimE.frz (sim_lst sim_nil (by simp [All]))) (sim_cons (sim_var (r := .sh) rfl True.intro (fun _ h => nomatch h)) (sim_cons (sim_c Rep0.int) (sim_cons (sim_c Rep0.int) sim_nil True.intro) True.intro) True.intro) True.intro) (by simp [TL.Args, TL.Arg]) True.intro)) sim_next)
      (sim_ifS (sim_test (sim_op opS_eq (sim_var (r := .sh) rfl True.intro (fun _ h => nomatch h)) (sim_c Rep0.int) True.intro)) (sim_drop (sim_call0 (rr := (.own 1)) (sim_cons (SimE.frz (sim_lst sim_nil (by simp [All]))) (sim_cons (sim_tup_fz sim_nil (by simp [All])) (sim_cons (sim_var (r := .sh) rfl True.intro (fun _ h => nomatch h)) (sim_cons (sim_c Rep0.int) sim_nil True.intro) True.intro) True.intro) True.intro) (by simp [TL.Args, TL.Arg]) True.intro)) sim_next))))))) (cls_as (c := (PySem.Str.ofString "BadScript")) rfl (xm_BadScript Y) rfl (fun a d => (sim_seq (sim_set (SimE.frz (sim_lst (sim_cons (sim_exI (c := (PySem.Str.ofString "BadScript")) (b := (PySem.Str.ofString "SlipError")) (vc := .ref (He.ga K "SlipError")) rfl (fun _ h => h) (kt_BadScript_SlipError Y)) (sim_cons (sim_exI (c := (PySem.Str.ofString "BadScript")) (b := (PySem.Str.ofString "ValueError")) (vc := .ty "ValueError") rfl (fun _ h => h) (kt_BadScript_ValueError Y)) (sim_cons (sim_exI (c := (PySem.Str.ofString "BadScript")) (b := (PySem.Str.ofString "NoRow")) (vc := .ref (He.ga K "NoRow")) rfl (fun _ h => h) (kt_BadScript_NoRow Y)) (sim_cons (sim_exI (c := (PySem.Str.ofString "BadScript")) (b := (PySem.Str.ofString "NoNumber")) (vc := .ref (He.ga K "NoNumber")) rfl (fun _ h => h) (kt_BadScript_NoNumber Y)) sim_nil True.intro) True.intro) True.intro) True.intro) (by simp [All]))) rfl True.intro)
      (sim_seq (sim_ifS (sim_or (sim_test (sim_op opS_ne (sim_var (r := .fz) rfl True.intro (fun _ h => nomatch h)) (SimE.frz (sim_lst (sim_cons (sim_c Rep0.bl) (sim_cons (sim_c Rep0.bl) (sim_cons (sim_c Rep0.bl) (sim_cons (sim_c Rep0.bl) sim_nil True.intro) True.intro) True.intro) True.intro) (by simp [All]))) True.intro)) (sim_tB (sim_isa1 kit_bool (sim_exF (c := (PySem.Str.ofString "BadScript")) (f := (PySem.Str.ofString "place")) rfl)))) (sim_ret (SimE.frz (sim_lst (sim_cons (sim_c Rep0.str) sim_nil True.intro) (by simp [All])))) sim_next)
      (sim_ret (SimE.frz (sim_lst (sim_cons (sim_exF (c := (PySem.Str.ofString "BadScript")) (f := (PySem.Str.ofString "place")) rfl) sim_nil True.intro) (by simp [All]))))))) (cls_no (c := (PySem.Str.ofString "NoNumber")) rfl (xm_NoNumber Y) (sim_ret (SimE.frz (sim_lst (sim_cons (sim_c Rep0.str) sim_nil True.intro) (by simp [All])))) cls_nil)) True.intro)
      (sim_ret (SimE.frz (sim_lst sim_nil (by simp [All]))))) True.intro rfl h
theorem okT_law {f : Addr} {fd : FuncData} {k : Nat} (F : L2.Fun K "law" "law" s_law f fd) (B : Bs K mg) (c__law_purse : C8.Cal P w K mg base k "_law_purse" (spT (gm K w) [.sh] ((.own 2)) f__law_purse) []) (c__law_draw : C8.Cal P w K mg base k "_law_draw" (spT (gm K w) [(.lent 2), .sh] (.fz) f__law_draw) []) (c__law_names : C8.Cal P w K mg base k "_law_names" (spT (gm K w) [(.lent 2), .sh] (.fz) f__law_names) []) (c__law_script : C8.Cal P w K mg base k "_law_script" (spT (gm K w) [(.lent 2), .sh, .sh] ((.own 1)) f__law_script) []) (c__law_bad_edit : C8.Cal P w K mg base k "_law_bad_edit" (spT (gm K w) [(.lent 2), .sh] (.fz) f__law_bad_edit) []) (c__law_place : C8.Cal P w K mg base k "_law_place" (spT (gm K w) [.sh] (.fz) f__law_place) []) (c__law_ask : C8.Cal P w K mg base k "_law_ask" (spT (gm K w) [.sh, .sh] (.fz) f__law_ask) []) : FnOk P w K mg base CX0 (k + 1) f fd P_law (spT (gm K w) [.sh] (.fz) f_law) := by
  refine fmT F sc_law rfl fun cdv A outer s H Q E vs hr h => ?_
  refine ⟨_, (pss_cons (ps_set (i := 1) sc_law.nd rfl (.inl rfl) (C8.pe_c c__law_purse hr (by omega) rfl (pa_cons (pv 0) pa_nil)))
      (pss_cons (ps_set (i := 2) sc_law.nd rfl (.inl rfl) (C8.pe_c c__law_draw hr (by omega) rfl (pa_cons (pv 1) (pa_cons pe_int pa_nil))))
      (pss_cons (ps_set (i := 3) sc_law.nd rfl (.inl rfl) (C8.pe_c c__law_draw hr (by omega) rfl (pa_cons (pv 1) (pa_cons pe_int pa_nil))))
      (pss_cons (ps_set (i := 4) sc_law.nd rfl (.inl rfl) (C8.pe_c c__law_names hr (by omega) rfl (pa_cons (pv 1) (pa_cons pe_int pa_nil))))
      (pss_cons (ps_set (i := 5) sc_law.nd rfl (.inr rfl) (C8.pe_c c__law_script hr (by omega) rfl (pa_cons (pv 1) (pa_cons (pv 4) (pa_cons pe_int pa_nil)))))
      (pss_cons (ps_if (pt_cmpR (opU_eq (Γ := gm K w) rfl (uu64 hr)) (pv 2) pe_int (by rfl)) (pss_one (ps_set (i := 5) sc_law.nd rfl (.inr rfl) (pe_op (opQ_add (Γ := gm K w) rfl) (pv 5) (pe_op op_rep (pe_lst (pa_cons (pe_tup (pa_cons pe_str (pa_cons (pe_ix (ixU (Γ := gm K w) (uu9 hr) rfl rfl) (pv 4) pe_int (fun _ _ => rfl)) pa_nil))) pa_nil)) (pe_op op_sub pe_int (pe_callB (lenU (Γ := gm K w) rfl) rfl B.b_len (by decide +kernel) (pa_cons (pv 5) pa_nil))))))) pss_nil)
      (pss_cons (ps_for PassesOwn.never rfl (pi_range1 rfl B.b_range (pa_cons (pv 3) pa_nil)) (pg_name (i := 6) sc_law.nd rfl (.inl rfl))
      (pss_cons (ps_set (i := 7) sc_law.nd rfl (.inl rfl) (C8.pe_c c__law_draw hr (by omega) rfl (pa_cons (pv 1) (pa_cons (pe_op opU_add (pe_callB (lenU (Γ := gm K w) rfl) rfl B.b_len (by decide +kernel) (pa_cons (pv 5) pa_nil)) pe_int) pa_nil))))
      (pss_one (ps_set (i := 5) sc_law.nd rfl (.inr rfl) (pe_op (opQ_add (Γ := gm K w) rfl) (pe_op (opQ_add (Γ := gm K w) rfl) (pe_slice (k_slq K) (pv 5) po_none (po_some (pv 7))) (pe_lst (pa_cons (C8.pe_c c__law_bad_edit hr (by omega) rfl (pa_cons (pv 1) (pa_cons (pe_ix (ixU (Γ := gm K w) (uu9 hr) rfl rfl) (pv 4) pe_int (fun _ _ => rfl)) pa_nil))) pa_nil))) (pe_slice (k_slq K) (pv 5) (po_some (pe_op opU_add (pv 7) (pe_callTy c_int1 rfl B.b_int (by decide +kernel) (pa_cons (pe_and (pe_cmpR (opU_eq (Γ := gm K w) rfl (uu64 hr)) (pv 2) pe_int (by rfl)) (pe_one (pe_cmpR op_lt (pv 7) (pe_callB (lenU (Γ := gm K w) rfl) rfl B.b_len (by decide +kernel) (pa_cons (pv 5) pa_nil)) (by rfl)))) pa_nil)))) po_none))))))
      (pss_cons (ps_if (pt_cmpR (opU_eq (Γ := gm K w) rfl (uu64 hr)) (pv 2) pe_int (by rfl)) (pss_one (ps_set (i := 5) sc_law.nd rfl (.inr rfl) (pe_op (opQ_add (Γ := gm K w) rfl) (pv 5) (pe_op op_rep (pe_lst (pa_cons (pe_tup (pa_cons pe_str (pa_cons (pe_ix (ixU (Γ := gm K w) (uu9 hr) rfl rfl) (pv 4) pe_int (fun _ _ => rfl)) pa_nil))) pa_nil)) (pe_op op_sub pe_int (pe_callB (lenU (Γ := gm K w) rfl) rfl B.b_len (by decide +kernel) (pa_cons (pv 5) pa_nil))))))) pss_nil)
      (pss_cons (ps_if (pt_cmpR (opU_eq (Γ := gm K w) rfl (uu64 hr)) (pv 2) pe_int (by rfl)) (pss_one (ps_set (i := 5) sc_law.nd rfl (.inr rfl) (pe_ix (ixU (Γ := gm K w) (uu9 hr) rfl rfl) (pe_lst (pa_cons pe_non (pa_cons pe_int (pa_cons (pe_ix (ixU (Γ := gm K w) (uu9 hr) rfl rfl) (pv 4) pe_int (fun _ _ => rfl)) (pa_cons pe_str (pa_cons (pe_dispT (Γ := gm K w) (uu9 hr) rfl rfl (pe_tup (pa_cons pe_str (pa_cons (pe_ix (ixU (Γ := gm K w) (uu9 hr) rfl rfl) (pv 4) pe_int (fun _ _ => rfl)) pa_nil))) pe_int) (pa_cons pe_bl pa_nil))))))) (C8.pe_c c__law_draw hr (by omega) rfl (pa_cons (pv 1) (pa_cons pe_int pa_nil))) (fun _ _ => rfl)))) pss_nil)
      (pss_cons (ps_if (pt_cmpR (opU_eq (Γ := gm K w) rfl (uu64 hr)) (pv 2) pe_int (by rfl)) (pss_one (ps_set (i := 5) sc_law.nd rfl (.inr rfl) (pe_callTy (k_tuple_of K) rfl B.b_tuple (by decide +kernel) (pa_cons (pv 5) pa_nil)))) pss_nil)
      (pss_cons (ps_set (i := 8) sc_law.nd rfl (.inl rfl) (C8.pe_c c__law_place hr (by omega) rfl (pa_cons (pv 5) pa_nil)))
      (pss_cons (ps_set (i := 9) sc_law.nd rfl (.inl rfl) (pe_lst (pa_cons (pv 8) (pa_cons (pv 8) (pa_cons (pv 8) (pa_cons (pv 8) (pa_cons (pv 8) (pa_cons (pv 8) pa_nil))))))))
      (pss_cons (ps_if (pt_cmpR (opU_eq (Γ := gm K w) rfl (uu64 hr)) (pe_callB (lenU (Γ := gm K w) rfl) rfl B.b_len (by decide +kernel) (pa_cons (pv 8) pa_nil)) pe_int (by rfl)) (pss_cons (ps_asg (pe_lst (pa_cons (pe_un un_neg pe_int) pa_nil)) (pg_sub (pv 9) pe_int (setU (Γ := gm K w) (uu9 hr) rfl rfl)))
      (pss_one (ps_asg (pe_lst (pa_cons pe_str pa_nil)) (pg_sub (pv 9) pe_int (setU (Γ := gm K w) (uu9 hr) rfl rfl))))) pss_nil)
      (pss_one (ps_ret (pe_cmpR (opU_eq (Γ := gm K w) rfl (uu64 hr)) (pe_lc (own := [("_law_which", 10)]) rfl sc_law.nd (pi_range1 rfl B.b_range (pa_cons pe_int pa_nil)) (blkOk_by (own := [("_law_which", 10)]) (N := N_law) (sc := defScope s_law) (by decide +kernel)) (fun _ _ _ _ _ => (pg_name (i := 10) sc_law.nd rfl (.inl rfl))) (fun _ _ _ _ _ => pts_nil) (fun _ _ _ _ _ => (C8.pe_c c__law_ask hr (by omega) rfl (pa_cons (pv 10) (pa_cons (pv 5) pa_nil))))) (pv 9) (by rfl))))))))))))))))), ?_⟩
  exact body_sim (Γ := gm K w) (pms := [.sh]) (lms := [(.own 2), (.own 0), (.own 0), (.own 0), (.own 0), (.own 0), (.own 0), (.own 0), (.own 1), (.own 0)]) (rr := .fz) (s := st_law) (sim_seq (sim_set (sim_call0 (rr := (.own 2)) (sim_cons (sim_var (r := .sh) rfl True.intro (fun _ h => nomatch h)) sim_nil True.intro) (by simp [TL.Args, TL.Arg]) True.intro) rfl rfl)
      (sim_seq (sim_set (sim_callL (rr := .fz) (p1 := []) (p2 := [.sh]) (c1 := []) (c2 := [.fz]) (n := 2) (i := 1) (sim_consS rfl (sim_cons (sim_c Rep0.int) sim_nil True.intro)) rfl rfl rfl rfl (by simp [TL.Args, TL.Arg]) (by simp [TL.Args, TL.Arg]) (noNow_of (by decide)) hlen_of hlen_ex True.intro) rfl True.intro)
      (sim_seq (sim_set (sim_callL (rr := .fz) (p1 := []) (p2 := [.sh]) (c1 := []) (c2 := [.fz]) (n := 2) (i := 1) (sim_consS rfl (sim_cons (sim_c Rep0.int) sim_nil True.intro)) rfl rfl rfl rfl (by simp [TL.Args, TL.Arg]) (by simp [TL.Args, TL.Arg]) (noNow_of (by decide)) hlen_of hlen_ex True.intro) rfl True.intro)
      (sim_seq (sim_set (sim_callL (rr := .fz) (p1 := []) (p2 := [.sh]) (c1 := []) (c2 := [.fz]) (n := 2) (i := 1) (sim_consS rfl (sim_cons (sim_c Rep0.int) sim_nil True.intro)) rfl rfl rfl rfl (by simp [TL.Args, TL.Arg]) (by simp [TL.Args, TL.Arg]) (noNow_of (by decide)) hlen_of hlen_ex True.intro) rfl True.intro)
      (sim_seq (sim_set (SimE.frz (sim_callL (rr := (.own 1)) (p1 := []) (p2 := [.sh, .sh]) (c1 := []) (c2 := [.fz, .fz]) (n := 2) (i := 1) (sim_consS rfl (sim_cons (sim_var (r := .fz) rfl True.intro (fun _ h => nomatch h)) (sim_cons (sim_c Rep0.int) sim_nil True.intro) True.intro)) rfl rfl rfl rfl (by simp [TL.Args, TL.Arg]) (by simp [TL.Args, TL.Arg]) (noNow_of (by decide)) hlen_of hlen_ex True.intro)) rfl True.intro)
      (sim_seq (sim_ifS (sim_test (sim_op opS_eq (sim_var (r := .fz) rfl True.intro (fun _ h => nomatch h)) (sim_c Rep0.int) True.intro)) (sim_set (SimE.frz (sim_cat_fz (sim_var (r := .fz) rfl True.intro (fun _ h => nomatch h)) (SimE.frz (sim_rep (sim_lst (sim_cons (sim_tup_fz (sim_cons (sim_c Rep0.str) (sim_cons (sim_el elS_get (sim_var (r := .fz) rfl True.intro (fun _ h => nomatch h)) (sim_c Rep0.int) True.intro) sim_nil True.intro) True.intro) (by simp [All])) sim_nil True.intro) (by simp [All])) (sim_op opS_sub (sim_c Rep0.int) (sim_cb callS_len (sim_cons (sim_var (r := .fz) rfl True.intro (fun _ h => nomatch h)) sim_nil True.intro) True.intro) True.intro))))) rfl True.intro) sim_next)
      (sim_seq (sim_for (sim_range1 (r := .fz) (sim_cons (sim_var (r := .fz) rfl True.intro (fun _ h => nomatch h)) sim_nil True.intro) True.intro) (sim_gname rfl True.intro (.inr rfl)) (sim_seq (sim_set (sim_callL (rr := .fz) (p1 := []) (p2 := [.sh]) (c1 := []) (c2 := [.fz]) (n := 2) (i := 1) (sim_consS rfl (sim_cons (sim_op opS_add (sim_cb callS_len (sim_cons (sim_var (r := .fz) rfl True.intro (fun _ h => nomatch h)) sim_nil True.intro) True.intro) (sim_c Rep0.int) True.intro) sim_nil True.intro)) rfl rfl rfl rfl (by simp [TL.Args, TL.Arg]) (by simp [TL.Args, TL.Arg]) (noNow_of (by decide)) hlen_of hlen_ex True.intro) rfl True.intro)
      (sim_set (SimE.frz (sim_cat_fz (SimE.frz (sim_cat_fz (sim_sl_ff (sim_var (r := .fz) rfl True.intro (fun _ h => nomatch h)) sim_nopart (sim_part (sim_var (r := .fz) rfl True.intro (fun _ h => nomatch h)))) (SimE.frz (sim_lst (sim_cons (sim_callL (rr := .fz) (p1 := []) (p2 := [.sh]) (c1 := []) (c2 := [.fz]) (n := 2) (i := 1) (sim_consS rfl (sim_cons (sim_el elS_get (sim_var (r := .fz) rfl True.intro (fun _ h => nomatch h)) (sim_c Rep0.int) True.intro) sim_nil True.intro)) rfl rfl rfl rfl (by simp [TL.Args, TL.Arg]) (by simp [TL.Args, TL.Arg]) (noNow_of (by decide)) hlen_of hlen_ex True.intro) sim_nil True.intro) (by simp [All]))))) (sim_sl_ff (sim_var (r := .fz) rfl True.intro (fun _ h => nomatch h)) (sim_part (sim_op opS_add (sim_var (r := .fz) rfl True.intro (fun _ h => nomatch h)) (sim_cb callS_int (sim_cons (sim_andV (sim_op opS_eq (sim_var (r := .fz) rfl True.intro (fun _ h => nomatch h)) (sim_c Rep0.int) True.intro) (sim_op opS_lt (sim_var (r := .fz) rfl True.intro (fun _ h => nomatch h)) (sim_cb callS_len (sim_cons (sim_var (r := .fz) rfl True.intro (fun _ h => nomatch h)) sim_nil True.intro) True.intro) True.intro)) sim_nil True.intro) True.intro) True.intro)) sim_nopart))) rfl True.intro)) put_ne)
      (sim_seq (sim_ifS (sim_test (sim_op opS_eq (sim_var (r := .fz) rfl True.intro (fun _ h => nomatch h)) (sim_c Rep0.int) True.intro)) (sim_set (SimE.frz (sim_cat_fz (sim_var (r := .fz) rfl True.intro (fun _ h => nomatch h)) (SimE.frz (sim_rep (sim_lst (sim_cons (sim_tup_fz (sim_cons (sim_c Rep0.str) (sim_cons (sim_el elS_get (sim_var (r := .fz) rfl True.intro (fun _ h => nomatch h)) (sim_c Rep0.int) True.intro) sim_nil True.intro) True.intro) (by simp [All])) sim_nil True.intro) (by simp [All])) (sim_op opS_sub (sim_c Rep0.int) (sim_cb callS_len (sim_cons (sim_var (r := .fz) rfl True.intro (fun _ h => nomatch h)) sim_nil True.intro) True.intro) True.intro))))) rfl True.intro) sim_next)
      (sim_seq (sim_ifS (sim_test (sim_op opS_eq (sim_var (r := .fz) rfl True.intro (fun _ h => nomatch h)) (sim_c Rep0.int) True.intro)) (sim_set (sim_el elS_get (SimE.frz (sim_lst (sim_cons (sim_c Rep0.non) (sim_cons (sim_c Rep0.int) (sim_cons (sim_el elS_get (sim_var (r := .fz) rfl True.intro (fun _ h => nomatch h)) (sim_c Rep0.int) True.intro) (sim_cons (sim_c Rep0.str) (sim_cons (SimE.frz (sim_dispT (sim_tup_fz (sim_cons (sim_c Rep0.str) (sim_cons (sim_el elS_get (sim_var (r := .fz) rfl True.intro (fun _ h => nomatch h)) (sim_c Rep0.int) True.intro) sim_nil True.intro) True.intro) (by simp [All])) (sim_c Rep0.int))) (sim_cons (sim_c Rep0.bl) sim_nil True.intro) True.intro) True.intro) True.intro) True.intro) True.intro) (by simp [All]))) (sim_callL (rr := .fz) (p1 := []) (p2 := [.sh]) (c1 := []) (c2 := [.fz]) (n := 2) (i := 1) (sim_consS rfl (sim_cons (sim_c Rep0.int) sim_nil True.intro)) rfl rfl rfl rfl (by simp [TL.Args, TL.Arg]) (by simp [TL.Args, TL.Arg]) (noNow_of (by decide)) hlen_of hlen_ex True.intro) True.intro) rfl True.intro) sim_next)
      (sim_seq (sim_ifS (sim_test (sim_op opS_eq (sim_var (r := .fz) rfl True.intro (fun _ h => nomatch h)) (sim_c Rep0.int) True.intro)) (sim_set (sim_tupFz (sim_cons (sim_var (r := .fz) rfl True.intro (fun _ h => nomatch h)) sim_nil True.intro) (by simp [TL.All])) rfl True.intro) sim_next)
      (sim_seq (sim_set (sim_call0 (rr := .fz) (sim_cons (sim_var (r := .fz) rfl True.intro (fun _ h => nomatch h)) sim_nil True.intro) (by simp [TL.Args, TL.Arg]) True.intro) rfl True.intro)
      (sim_seq (sim_set (sim_lst (sim_cons (sim_var (r := .fz) rfl True.intro (fun _ h => nomatch h)) (sim_cons (sim_var (r := .fz) rfl True.intro (fun _ h => nomatch h)) (sim_cons (sim_var (r := .fz) rfl True.intro (fun _ h => nomatch h)) (sim_cons (sim_var (r := .fz) rfl True.intro (fun _ h => nomatch h)) (sim_cons (sim_var (r := .fz) rfl True.intro (fun _ h => nomatch h)) (sim_cons (sim_var (r := .fz) rfl True.intro (fun _ h => nomatch h)) sim_nil True.intro) True.intro) True.intro) True.intro) True.intro) True.intro) (by simp [All])) rfl rfl)
      (sim_seq (sim_ifS (sim_test (sim_op opS_eq (sim_cb callS_len (sim_cons (sim_var (r := .fz) rfl True.intro (fun _ h => nomatch h)) sim_nil True.intro) True.intro) (sim_c Rep0.int) True.intro)) (sim_seq (sim_set1 rfl rfl rfl (SimE.frz (sim_lst (sim_cons (sim_neg (sim_c Rep0.int)) sim_nil True.intro) (by simp [All]))) (sim_c Rep0.int))
      (sim_set1 rfl rfl rfl (SimE.frz (sim_lst (sim_cons (sim_c Rep0.str) sim_nil True.intro) (by simp [All]))) (sim_c Rep0.int))) sim_next)
      (sim_ret (sim_op opS_eq (SimE.frz (sim_lc (by decide) (sim_range1 (r := .fz) (sim_cons (sim_c Rep0.int) sim_nil True.intro) True.intro) (sim_gvname (by decide) rfl True.intro (.inr rfl)) put_ne sim_yes (SimE.fz0 (sim_call0 (rr := .fz) (sim_cons (sim_var (r := .fz) rfl True.intro (fun _ h => nomatch h)) (sim_cons (sim_var (r := .fz) rfl True.intro (fun _ h => nomatch h)) sim_nil True.intro) True.intro) (by simp [TL.Args, TL.Arg]) True.intro)))) (sim_var (r := .now) rfl True.intro (fun _ h => nomatch h)) True.intro))))))))))))))) True.intro rfl h
end
end My
end
section
set_option Elab.async false
set_option Elab.async false
set_option linter.all false
set_option autoImplicit false
set_option maxRecDepth 100000
set_option maxHeartbeats 4000000
namespace My
open PySem PySem.Spec L2 TL
theorem ok_law {P : Program} {w : World} {K : PySem.W.Frag} {mg : Str → Option Value} {base : Heap} {f : Addr} {fd : FuncData} {k : Nat} (F : L2.Fun K "law" "law" s_law f fd) (B : Bs K mg) (c__law_purse : C8.Cal P w K mg base k "_law_purse" (spT (gm K w) [.sh] ((.own 2)) f__law_purse) []) (c__law_draw : C8.Cal P w K mg base k "_law_draw" (spT (gm K w) [(.lent 2), .sh] (.fz) f__law_draw) []) (c__law_names : C8.Cal P w K mg base k "_law_names" (spT (gm K w) [(.lent 2), .sh] (.fz) f__law_names) []) (c__law_script : C8.Cal P w K mg base k "_law_script" (spT (gm K w) [(.lent 2), .sh, .sh] ((.own 1)) f__law_script) []) (c__law_bad_edit : C8.Cal P w K mg base k "_law_bad_edit" (spT (gm K w) [(.lent 2), .sh] (.fz) f__law_bad_edit) []) (c__law_place : C8.Cal P w K mg base k "_law_place" (spT (gm K w) [.sh] (.fz) f__law_place) []) (c__law_ask : C8.Cal P w K mg base k "_law_ask" (spT (gm K w) [.sh, .sh] (.fz) f__law_ask) []) : FnOk P w K mg base CX0 (k + 1) f fd P_law (spLaw K) := by
  refine (okT_law F B c__law_purse c__law_draw c__law_names c__law_script c__law_bad_edit c__law_place c__law_ask).imp ?_
  rintro vs H Q E ⟨x, rfl, a, ns, rfl, hS, hQ⟩
  obtain ⟨τ, hm⟩ := law_true ns
  exact law_sp (Γ := gm K w) rfl hS hm hQ rfl
theorem bs_mk {K : PySem.W.Frag} {h : Heap} {mg : Str → Option Value} (X : K.In h) (G : h.Ns mainGlobals mg) (c : He.SaysD fa fn K) (hx : exB0 K = true) : Bs K mg where
  b_ValueError := He.free_ok X G (c.fact 23 (f := .free "ValueError") rfl)
  b_abs := He.free_ok X G (c.fact 24 (f := .free "abs") rfl)
  b_bool := He.free_ok X G (c.fact 25 (f := .free "bool") rfl)
  b_enumerate := He.free_ok X G (c.fact 26 (f := .free "enumerate") rfl)
  b_int := He.free_ok X G (c.fact 27 (f := .free "int") rfl)
  b_isinstance := He.free_ok X G (c.fact 28 (f := .free "isinstance") rfl)
  b_len := He.free_ok X G (c.fact 29 (f := .free "len") rfl)
  b_list := He.free_ok X G (c.fact 30 (f := .free "list") rfl)
  b_range := He.free_ok X G (c.fact 31 (f := .free "range") rfl)
  b_str := He.free_ok X G (c.fact 32 (f := .free "str") rfl)
  b_super := He.free_ok X G (c.fact 33 (f := .free "super") rfl)
  b_tuple := He.free_ok X G (c.fact 34 (f := .free "tuple") rfl)
  x_LETTERS := by
    obtain ⟨t, e⟩ := He.str_ok X G (c.fact 35 (f := .str "LETTERS" "abcdefghijklmnopqrstuvwxyz") rfl)
    exact ⟨_, e, t, rfl⟩
  x_MOST_EDITS := by
    obtain ⟨t, e⟩ := He.int_ok X G (c.fact 36 (f := .int "MOST_EDITS" 5000) rfl)
    exact ⟨_, e, t, rfl⟩
  x_MOST_TURNED := by
    obtain ⟨t, e⟩ := He.int_ok X G (c.fact 37 (f := .int "MOST_TURNED" 5000) rfl)
    exact ⟨_, e, t, rfl⟩
theorem facts {P : Program} {w : World} {K : PySem.W.Frag} {h : Heap} {mg : Str → Option Value} {f : Addr} (X : K.In h) (G : h.Ns mainGlobals mg) (hfa : mg ("law" : Str) = some (.ref f)) (c : He.SaysP fa fn pr exB K) (hP : TL.supP PySem.Challenge.rw_slipstold_k13_bad_scripts.prog.main.file P = true) :
    ∃ fd : FuncData, (∀ (s : Shared) (v : Value), BindsTo s fd ⟨[v], []⟩ [("_law_script_here", v)]) ∧ ∀ base : Heap, K.In base → base.Ns mainGlobals mg → FnOk P w K mg base CX0 7 f fd ["_law_script_here"] (spLaw K) := by
  obtain ⟨fd__law_purse, D__law_purse⟩ := c.d.def_ 0 (d := d__law_purse) rfl
  have F__law_purse := fun_of (st := s__law_purse) D__law_purse
  have g__law_purse := He.glo_ok X G (c.d.fact 0 (f := .glo "_law_purse") rfl)
  obtain ⟨fd__law_draw, D__law_draw⟩ := c.d.def_ 1 (d := d__law_draw) rfl
  have F__law_draw := fun_of (st := s__law_draw) D__law_draw
  have g__law_draw := He.glo_ok X G (c.d.fact 1 (f := .glo "_law_draw") rfl)
  obtain ⟨fd__law_name, D__law_name⟩ := c.d.def_ 2 (d := d__law_name) rfl
  have F__law_name := fun_of (st := s__law_name) D__law_name
  have g__law_name := He.glo_ok X G (c.d.fact 2 (f := .glo "_law_name") rfl)
  obtain ⟨fd__law_names, D__law_names⟩ := c.d.def_ 3 (d := d__law_names) rfl
  have F__law_names := fun_of (st := s__law_names) D__law_names
  have g__law_names := He.glo_ok X G (c.d.fact 3 (f := .glo "_law_names") rfl)
  obtain ⟨fd__law_script, D__law_script⟩ := c.d.def_ 4 (d := d__law_script) rfl
  have F__law_script := fun_of (st := s__law_script) D__law_script
  have g__law_script := He.glo_ok X G (c.d.fact 4 (f := .glo "_law_script") rfl)
  obtain ⟨fd__law_strange, D__law_strange⟩ := c.d.def_ 5 (d := d__law_strange) rfl
  have F__law_strange := fun_of (st := s__law_strange) D__law_strange
  have g__law_strange := He.glo_ok X G (c.d.fact 5 (f := .glo "_law_strange") rfl)
  obtain ⟨fd__law_bad_edit, D__law_bad_edit⟩ := c.d.def_ 6 (d := d__law_bad_edit) rfl
  have F__law_bad_edit := fun_of (st := s__law_bad_edit) D__law_bad_edit
  have g__law_bad_edit := He.glo_ok X G (c.d.fact 6 (f := .glo "_law_bad_edit") rfl)
  obtain ⟨fd__law_good, D__law_good⟩ := c.d.def_ 7 (d := d__law_good) rfl
  have F__law_good := fun_of (st := s__law_good) D__law_good
  have g__law_good := He.glo_ok X G (c.d.fact 7 (f := .glo "_law_good") rfl)
  obtain ⟨fd__law_place, D__law_place⟩ := c.d.def_ 8 (d := d__law_place) rfl
  have F__law_place := fun_of (st := s__law_place) D__law_place
  have g__law_place := He.glo_ok X G (c.d.fact 8 (f := .glo "_law_place") rfl)
  obtain ⟨fd_is_items, D_is_items⟩ := c.d.def_ 9 (d := d_is_items) rfl
  have F_is_items := fun_of (st := s_is_items) D_is_items
  have g_is_items := He.glo_ok X G (c.d.fact 9 (f := .glo "is_items") rfl)
  obtain ⟨fd_is_name, D_is_name⟩ := c.d.def_ 10 (d := d_is_name) rfl
  have F_is_name := fun_of (st := s_is_name) D_is_name
  have g_is_name := He.glo_ok X G (c.d.fact 10 (f := .glo "is_name") rfl)
  obtain ⟨fd_is_edit, D_is_edit⟩ := c.d.def_ 11 (d := d_is_edit) rfl
  have F_is_edit := fun_of (st := s_is_edit) D_is_edit
  have g_is_edit := He.glo_ok X G (c.d.fact 11 (f := .glo "is_edit") rfl)
  obtain ⟨fd_bad_edit, D_bad_edit⟩ := c.d.def_ 12 (d := d_bad_edit) rfl
  have F_bad_edit := fun_of (st := s_bad_edit) D_bad_edit
  have g_bad_edit := He.glo_ok X G (c.d.fact 12 (f := .glo "bad_edit") rfl)
  obtain ⟨fd_need_script, D_need_script⟩ := c.d.def_ 13 (d := d_need_script) rfl
  have F_need_script := fun_of (st := s_need_script) D_need_script
  have g_need_script := He.glo_ok X G (c.d.fact 13 (f := .glo "need_script") rfl)
  obtain ⟨fd_source, D_source⟩ := c.d.def_ 14 (d := d_source) rfl
  have F_source := fun_of (st := s_source) D_source
  have g_source := He.glo_ok X G (c.d.fact 14 (f := .glo "source") rfl)
  obtain ⟨fd_target, D_target⟩ := c.d.def_ 15 (d := d_target) rfl
  have F_target := fun_of (st := s_target) D_target
  have g_target := He.glo_ok X G (c.d.fact 15 (f := .glo "target") rfl)
  obtain ⟨fd_cost, D_cost⟩ := c.d.def_ 16 (d := d_cost) rfl
  have F_cost := fun_of (st := s_cost) D_cost
  have g_cost := He.glo_ok X G (c.d.fact 16 (f := .glo "cost") rfl)
  obtain ⟨fd_is_integer, D_is_integer⟩ := c.d.def_ 17 (d := d_is_integer) rfl
  have F_is_integer := fun_of (st := s_is_integer) D_is_integer
  have g_is_integer := He.glo_ok X G (c.d.fact 17 (f := .glo "is_integer") rfl)
  obtain ⟨fd_is_within, D_is_within⟩ := c.d.def_ 18 (d := d_is_within) rfl
  have F_is_within := fun_of (st := s_is_within) D_is_within
  have g_is_within := He.glo_ok X G (c.d.fact 18 (f := .glo "is_within") rfl)
  obtain ⟨fd_need_within, D_need_within⟩ := c.d.def_ 19 (d := d_need_within) rfl
  have F_need_within := fun_of (st := s_need_within) D_need_within
  have g_need_within := He.glo_ok X G (c.d.fact 19 (f := .glo "need_within") rfl)
  obtain ⟨fd_turned, D_turned⟩ := c.d.def_ 20 (d := d_turned) rfl
  have F_turned := fun_of (st := s_turned) D_turned
  have g_turned := He.glo_ok X G (c.d.fact 20 (f := .glo "turned") rfl)
  obtain ⟨fd__law_ask, D__law_ask⟩ := c.d.def_ 21 (d := d__law_ask) rfl
  have F__law_ask := fun_of (st := s__law_ask) D__law_ask
  have g__law_ask := He.glo_ok X G (c.d.fact 21 (f := .glo "_law_ask") rfl)
  obtain ⟨fd_law, D_law⟩ := c.d.def_ 22 (d := d_law) rfl
  have F_law := fun_of (st := s_law) D_law
  have g_law := He.glo_ok X G (c.d.fact 22 (f := .glo "law") rfl)
  have B := bs_mk X G c.d (Bool.and_eq_true_iff.mp c.exB).1
  have Y : TL.Xs P K mg (He.ga K) clsX hsX issX := TL.xs_of (Bool.and_eq_true_iff.mp c.exB).2 hP B.b_super
    (List.forall_mem_cons.mpr ⟨fun hne => TL.bd_place, (List.forall_mem_cons.mpr ⟨fun hne => absurd rfl hne, (fun _ h => nomatch h)⟩)⟩)
    (List.forall_mem_cons.mpr ⟨fun hne => He.glo_ok X G (c.d.fact 38 (f := .glo "BadScript") rfl), (List.forall_mem_cons.mpr ⟨fun hne => He.glo_ok X G (c.d.fact 39 (f := .glo "NoNumber") rfl), (List.forall_mem_cons.mpr ⟨fun hne => He.glo_ok X G (c.d.fact 40 (f := .glo "SlipError") rfl), (List.forall_mem_cons.mpr ⟨fun hne => absurd rfl hne, (List.forall_mem_cons.mpr ⟨fun hne => He.glo_ok X G (c.d.fact 41 (f := .glo "NoRow") rfl), (List.forall_mem_cons.mpr ⟨fun hne => He.glo_ok X G (c.d.fact 39 (f := .glo "NoNumber") rfl), (fun _ h => nomatch h)⟩)⟩)⟩)⟩)⟩)⟩)
  have e := hfa.symm.trans g_law
  cases e
  have b := FunD.bindsA (ps := ["_law_script_here"]) D_law fun _ _ _ _ _ _ us hl => match us, hl with | [_], _ => rfl
  refine ⟨fd_law, fun s v => b s [v] rfl, fun base _ _ => ?_⟩
  have c__law_purse := ok__law_purse (P := P) (w := w) (base := base) (k := 0) F__law_purse g__law_purse B 
  have c__law_draw := ok__law_draw (P := P) (w := w) (base := base) (k := 0) F__law_draw g__law_draw B 
  have c__law_name := ok__law_name (P := P) (w := w) (base := base) (k := 1) F__law_name g__law_name B (Cal.mono c__law_draw (by decide))
  have c__law_names := ok__law_names (P := P) (w := w) (base := base) (k := 2) F__law_names g__law_names B (Cal.mono c__law_draw (by decide)) (Cal.mono c__law_name (by decide))
  have c__law_script := ok__law_script (P := P) (w := w) (base := base) (k := 1) F__law_script g__law_script B (Cal.mono c__law_draw (by decide))
  have c__law_strange := ok__law_strange (P := P) (w := w) (base := base) (k := 1) F__law_strange g__law_strange B (Cal.mono c__law_draw (by decide))
  have c__law_bad_edit := ok__law_bad_edit (P := P) (w := w) (base := base) (k := 2) F__law_bad_edit g__law_bad_edit B (Cal.mono c__law_draw (by decide)) (Cal.mono c__law_strange (by decide))
  have c__law_good := ok__law_good (P := P) (w := w) (base := base) (k := 0) F__law_good g__law_good B 
  have c__law_place := ok__law_place (P := P) (w := w) (base := base) (k := 1) F__law_place g__law_place B (Cal.mono c__law_good (by decide))
  have c_is_items := ok_is_items (P := P) (w := w) (base := base) (k := 0) F_is_items g_is_items B 
  have c_is_name := ok_is_name (P := P) (w := w) (base := base) (k := 0) F_is_name g_is_name B 
  have c_is_edit := ok_is_edit (P := P) (w := w) (base := base) (k := 1) F_is_edit g_is_edit B (Cal.mono c_is_name (by decide))
  have c_bad_edit := ok_bad_edit (P := P) (w := w) (base := base) (k := 2) F_bad_edit g_bad_edit B (Cal.mono c_is_items (by decide)) (Cal.mono c_is_edit (by decide))
  have c_need_script := ok_need_script (P := P) (w := w) (base := base) (k := 3) F_need_script g_need_script B Y (by decide) (Cal.mono c_bad_edit (by decide))
  have c_source := ok_source (P := P) (w := w) (base := base) (k := 4) F_source g_source B (by decide) (CalX.mono c_need_script (by decide))
  have c_target := ok_target (P := P) (w := w) (base := base) (k := 4) F_target g_target B (by decide) (CalX.mono c_need_script (by decide))
  have c_cost := ok_cost (P := P) (w := w) (base := base) (k := 4) F_cost g_cost B (by decide) (CalX.mono c_need_script (by decide))
  have c_is_integer := ok_is_integer (P := P) (w := w) (base := base) (k := 0) F_is_integer g_is_integer B 
  have c_is_within := ok_is_within (P := P) (w := w) (base := base) (k := 1) F_is_within g_is_within B (Cal.mono c_is_integer (by decide))
  have c_need_within := ok_need_within (P := P) (w := w) (base := base) (k := 2) F_need_within g_need_within B Y (by decide) (Cal.mono c_is_within (by decide))
  have c_turned := ok_turned (P := P) (w := w) (base := base) (k := 4) F_turned g_turned B (by decide) (CalX.mono c_need_script (by decide)) (CalX.mono c_need_within (by decide))
  have c__law_ask := ok__law_ask (P := P) (w := w) (base := base) (k := 5) F__law_ask g__law_ask B Y (CalX.mono c_source (by decide)) (CalX.mono c_target (by decide)) (CalX.mono c_cost (by decide)) (CalX.mono c_turned (by decide))
  exact ok_law (k := 6) F_law B (Cal.mono c__law_purse (by decide)) (Cal.mono c__law_draw (by decide)) (Cal.mono c__law_names (by decide)) (Cal.mono c__law_script (by decide)) (Cal.mono c__law_bad_edit (by decide)) (Cal.mono c__law_place (by decide)) (Cal.mono c__law_ask (by decide))
end My
open PySem PySem.W PySem.Calls PyProof.Rows
theorem PySem.Challenge.cw_slipstold_k13_bad_scripts_holds : PySem.Challenge.rw_slipstold_k13_bad_scripts.Holds :=
  My.fin My.facts
end
