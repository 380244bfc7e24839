import PyProof.Rows.All
import Wide.All
import OpenK.AllK
import Wide.FinOn
import HandS.ForMost
import HandS.Evl
import HandS.Walk
import HandS.Conv
import HandS.Deep
import HandS.TupAny
import HandS.IsInst
import HandS.Replace
import HandS.Flow
import KE.SortData
import KE.GoesEnum
import KE.KDictDisplayH
import KE.KDictCopyH
import HandS.HeadHook2
import PySem.Challenge.RW_anytext_k26_whole_no_wrong_paper
set_option Elab.async false
set_option linter.all false
set_option maxRecDepth 100000
set_option maxHeartbeats 2000000
namespace A26
open PySem PySem.Spec PyProof.Rows L2
open Evl (Ex ex_l ex_t)
-- R1
/-! ### defs, methods, classes of the text, by name -/
structure OkF (P : Program) (w : World) (K : PySem.W.Frag) (mg : Str → Option Value) (base : Heap) (k : Nat) (x : Str) (ps : List Str) (sp : Sp) : Prop where
  ex : ∃ (f : Addr) (fd : FuncData), FnOk P w K mg base CX0 k f fd ps sp ∧ mg x = some (.ref f) ∧ PySem.W.keepIn K (.ref f) = true ∧ Binds K fd ps []
structure OkM (P : Program) (w : World) (K : PySem.W.Frag) (mg : Str → Option Value) (base : Heap) (k : Nat) (C : Addr) (m : Str) (ps : List Str) (sp : Sp) : Prop where
  ex : ∃ (f : Addr) (fd : FuncData), FnOk P w K mg base CX0 k f fd ps sp ∧ Cls K C ∧ Meth K C m f ∧ Binds K fd ps []
structure OkC (P : Program) (w : World) (K : PySem.W.Frag) (mg : Str → Option Value) (base : Heap) (k : Nat) (x : Str) (C : Addr) (ps : List Str) (sp : Sp) : Prop where
  ex : ∃ (f : Addr) (fd : FuncData), FnOk P w K mg base CX0 k f fd ps sp ∧ Mk K C f ∧ mg x = some (.ref C) ∧ Binds K fd ps []

/-- the built-in names are no names of the module -/
structure Bl (mg : Str → Option Value) : Prop where
  m_len : mg "len" = none
  m_range : mg "range" = none
  m_min : mg "min" = none
  m_abs : mg "abs" = none
  m_int : mg "int" = none
  m_list : mg "list" = none
  m_tuple : mg "tuple" = none
  m_any : mg "any" = none
  m_all : mg "all" = none
  m_sorted : mg "sorted" = none
  m_enumerate : mg "enumerate" = none
  m_isinstance : mg "isinstance" = none
  m_bool : mg "bool" = none

section
variable {X : Cx} {k : Nat} {C : Addr} {ps : List Str} {sp : Sp} {x m : Str} {p pos apos : Pos} {e o : Expr} {es : List Expr} {ta : TE} {t : TA}
theorem pe_F (O : OkF X.prog X.w X.K X.mg X.base k x ps sp) (hr : Room k X.A) (hg : Gl X x)
    (ha : PA X (e :: es) t) (hdb : (x == ("__debug__" : Str)) = false := by decide) (he : starEach (e :: es) X.env = (false, eval e X.env) :: starEach es X.env := by rfl) (hpl : (backTo pos (starEach es X.env)).any (·.1) = false := by rfl) :
    PE X (.Call (.Name x p) (e :: es) [] pos) (tCall sp [] E0 t) := by
  obtain ⟨f, fd, F, hm, hk, hb⟩ := O.ex
  exact pe_call F hr hg hm hk hb .nil pass0 ha hdb he hpl
theorem pe_M (O : OkC X.prog X.w X.K X.mg X.base k x C ps sp) (hr : Room (k + 1) X.A) (hg : Gl X x)
    (ha : PA X (e :: es) t) (hdb : (x == ("__debug__" : Str)) = false := by decide) (he : starEach (e :: es) X.env = (false, eval e X.env) :: starEach es X.env := by rfl) (hpl : (backTo pos (starEach es X.env)).any (·.1) = false := by rfl) :
    PE X (.Call (.Name x p) (e :: es) [] pos) (tMake C sp [] E0 t) := by
  obtain ⟨f, fd, F, M, hm, hb⟩ := O.ex
  exact pe_make M F hr hg hm hb .nil pass0 ha hdb he hpl
end
section
variable {X : Cx} {k : Nat} {C : Addr} {ps : List Str} {sp : Sp} {x m : Str} {p pos apos : Pos} {e o : Expr} {es : List Expr} {ta : TE} {t : TA} {pl : Sem Bool}
theorem pe_D (O : OkM X.prog X.w X.K X.mg X.base k C m ps sp) (hr : Room k X.A) (ho : PE X o ta) (ha : PA X (e :: es) t)
    (he : starEach (e :: es) X.env = (false, eval e X.env) :: starEach es X.env := by rfl) (hpl : (backTo pos (starEach es X.env)).any (·.1) = false := by rfl)
    (ht : eval (.Call (.Attribute o m apos) (e :: es) [] pos) X.env = (do
      let ov ← eval o X.env
      standAt apos.atName
      let (f, first) ← holding [ov] (getMethod ov m pl)
      callWith pos f first (backTo pos (starEach (e :: es) X.env)) (backToKw pos (keywordEach [] X.env))) := by rfl) :
    PE X (.Call (.Attribute o m apos) (e :: es) [] pos) (tMeth C m sp [] E0 ta t) := by
  obtain ⟨f, fd, F, c, hm, hb⟩ := O.ex
  exact pe_meth ho c hm F hr hb .nil pass0 ha he hpl ht
theorem pe_D0 (O : OkM X.prog X.w X.K X.mg X.base k C m ps sp) (hr : Room k X.A) (ho : PE X o ta)
    (ht : eval (.Call (.Attribute o m apos) [] [] pos) X.env = (do
      let ov ← eval o X.env
      standAt apos.atName
      let (f, first) ← holding [ov] (getMethod ov m pl)
      callWith pos f first (backTo pos (starEach [] X.env)) (backToKw pos (keywordEach [] X.env))) := by rfl) :
    PE X (.Call (.Attribute o m apos) [] [] pos) (tMeth C m sp [] E0 ta tNil) := by
  obtain ⟨f, fd, F, c, hm, hb⟩ := O.ex
  exact pe_meth0 ho c hm F hr hb .nil pass0 ht
end

/-! ### operators that serve several kinds -/
def rAddS : R2 := fun x y H Q => ∃ i j, x = .str i ∧ y = .str j ∧ i.length + j.length ≤ sizeLine ∧ Q (.str (i ++ j)) H
def rPlus (K : PySem.W.Frag) : R2 := fun x y H Q => rI0 (fun i j => .int (i + j)) x y H Q ∨ rAddS x y H Q ∨ rCat x y H Q ∨ rCatA K x y H Q
def rInT (K : PySem.W.Frag) (neg : Bool) : R2 := fun x y H Q => ∃ d ds, Dp K H x d ∧ Dp K H y (.tuple ds) ∧ SeqAt.shaped d = true ∧ SeqAt.shaped (.tuple ds) = true ∧ Q (.bl (if neg then !(ds.any fun z => PyData.eqv z d) else ds.any fun z => PyData.eqv z d)) H
def rInS (neg : Bool) : R2 := fun x y H Q => ∃ (c : Nat) (z : Str), x = .str ⟨#[c]⟩ ∧ y = .str z ∧ Q (.bl (if neg then !decide (c ∈ z.cps.toList) else decide (c ∈ z.cps.toList))) H
def rInA (K : PySem.W.Frag) (neg : Bool) : R2 := fun x y H Q => rIn K neg x y H Q ∨ rInS neg x y H Q ∨ rInT K neg x y H Q
def rEqA (K : PySem.W.Frag) : R2 := fun x y H Q => rEq x y H Q ∨ rEqD K x y H Q
def rNeA (K : PySem.W.Frag) : R2 := fun x y H Q => rNe x y H Q ∨ rNeD K x y H Q
def rSlAny (K : PySem.W.Frag) : V → Option Int → Option Int → Hp → VK → Prop := fun x lo hi H Q => rSlL K x lo hi H Q ∨ rSlA K x lo hi H Q ∨ rSlS x lo hi H Q
section
variable {X : Cx} {k : Nat}
theorem op_plus : OpR X (binaryOp .Add) (rPlus X.K) := op_add.or (op_add_str.or (op_cat.or op_catA))
theorem op_inT (hu : X.A.units + 65 < cLine) : OpR X (compareOp .In) (rInT X.K false) := by
  intro pins s σ H x y v u Q I rx ry h
  obtain ⟨d, ds, hd, he, sd, se, q⟩ := h
  obtain ⟨as, r1⟩ := Dp.reads I d x v hd rx
  obtain ⟨bs, r2⟩ := Dp.reads I (.tuple ds) y u he ry
  exact SeqAt.in_tuple_reads r2 r1 (SeqAt.canLay_of_shaped se) (SeqAt.canLay_of_shaped sd) (room_in_shaped sd hu) ⟨.bl _, H, I, rfl, q⟩
theorem op_niT (hu : X.A.units + 65 < cLine) : OpR X (compareOp .NotIn) (rInT X.K true) := by
  intro pins s σ H x y v u Q I rx ry h
  obtain ⟨d, ds, hd, he, sd, se, q⟩ := h
  obtain ⟨as, r1⟩ := Dp.reads I d x v hd rx
  obtain ⟨bs, r2⟩ := Dp.reads I (.tuple ds) y u he ry
  exact SeqAt.notIn_tuple_reads r2 r1 (SeqAt.canLay_of_shaped se) (SeqAt.canLay_of_shaped sd) (room_in_shaped sd hu) ⟨.bl _, H, I, rfl, q⟩
theorem room65 (hr : Room k X.A) : X.A.units + 65 < cLine := by have := hr.un; omega
theorem op_inA (hr : Room k X.A) : OpR X (compareOp .In) (rInA X.K false) := op_in_seq.or (op_in_sign.or (op_inT (room65 hr)))
theorem op_niA (hr : Room k X.A) : OpR X (compareOp .NotIn) (rInA X.K true) := op_notIn_seq.or (op_notIn_sign.or (op_niT (room65 hr)))
theorem op_eqA (hr : Room k X.A) : OpR X (compareOp .Eq) (rEqA X.K) := op_eq.or (op_eqD hr.units)
theorem op_neA (hr : Room k X.A) : OpR X (compareOp .NotEq) (rNeA X.K) := op_ne.or (op_neD hr.units)
theorem sl_any : SlR X (rSlAny X.K) := sl_list.or (sl_tupA.or sl_str)
end
/-! ### enumerate(tuple) -/
theorem meets_enum_tup (t : Addr) (items : Array Value) :
    Meets (Builtin.«enumerate.__new__» ⟨[.type "enumerate", .ref t], []⟩) (fun _ R s => s.heap.IsTuple t items ∧
      R (.ok (.ret (.ref (s.heap.push { cls := .type "tuple_iterator", data := .fields #[.ref t, .int 0 0] }).objs.size)))
        { s with heap := (s.heap.push { cls := .type "tuple_iterator", data := .fields #[.ref t, .int 0 0] }).push { cls := .type "enumerate", data := .fields #[.none, .bool false, .ref s.heap.objs.size, rawInt 0, .none, .none] } }) :=
  .of_wp fun prog w A R s h => by
    obtain ⟨hp, g, d, tk, os⟩ := s
    obtain ⟨h1, h⟩ := h
    have hsub := sub_enumerate
    have q1 : ∀ {A' : Around} {E : Value → Shared → Prop} {Q : Value → Shared → Prop}, Q (.ref hp.objs.size) ⟨hp.push { cls := .type "tuple_iterator", data := .fields #[.ref t, .int 0 0] }, g, d, tk, os⟩ → wpAny (model prog w) A' (pyIter (.ref t)) Q E ⟨hp, g, d, tk, os⟩ :=
      fun q => (begins_tuple t items).iter prog w _ _ ⟨hp, g, d, tk, os⟩ _ h1 q
    wp_walk using q1
    refine wpAny_stack_any fun st => wpAny_pure ?_
    split
    · rename_i c _ _ _ _ _
      cases (c == Value.type "enumerate")
      · wp_walk using q1
        exact ⟨_, rfl, h⟩
      · wp_walk using q1
        exact ⟨_, rfl, h⟩
    · wp_walk using q1
      exact ⟨_, rfl, h⟩
theorem call_enumerate_tup {prog : Program} {w : World} {A : Around} {E : Value → Shared → Prop} {s : Shared} {t : Addr} {items : Array Value} {Q : Value → Shared → Prop} (hL : s.heap.IsTuple t items)
    (h : ∀ h', IsEnum h' (s.heap.objs.size + 1) s.heap.objs.size 0 .none → h'.IsTupleIter s.heap.objs.size t 0 → h'.objs.size = s.heap.objs.size + 2 →
      (∀ b o, s.heap.get? b = some o → h'.get? b = some o) → Q (.ref (s.heap.objs.size + 1)) { s with heap := h' }) :
    wpAny (model prog w) A (call (.type "enumerate") [.ref t]) Q E s := by
  refine callType_new F.called_enumerate (by decide) (F.typeCall_enumerate_1 _) (F.newCall_enumerate_1 _) (fun obj => F.args_object_init_2 obj _) F.entry_enumerate_new
    (meets_enum_tup t items) ⟨hL, ?_⟩
  have hz : (s.heap.push { cls := .type "tuple_iterator", data := .fields #[.ref t, .int 0 0] }).objs.size = s.heap.objs.size + 1 := Heap.size_push ..
  show _ ∧ _
  rw [hz]
  have he : IsEnum ((s.heap.push { cls := .type "tuple_iterator", data := .fields #[.ref t, .int 0 0] }).push
      { cls := .type "enumerate", data := .fields #[.none, .bool false, .ref s.heap.objs.size, rawInt 0, .none, .none] }) (s.heap.objs.size + 1) s.heap.objs.size 0 .none := by
    have := Heap.get?_push_size (s.heap.push { cls := .type "tuple_iterator", data := .fields #[.ref t, .int 0 0] })
      (o := { cls := .type "enumerate", data := .fields #[.none, .bool false, .ref s.heap.objs.size, rawInt 0, .none, .none] }) rfl
    rw [hz] at this; exact this
  refine ⟨⟨_, he, rfl⟩, h _ he ⟨_, Heap.get?_push_of_some _ (Heap.get?_push_size _ rfl), rfl, rfl⟩ (by rw [Heap.size_push, hz]) fun b o x => Heap.get?_push_of_some _ (Heap.get?_push_of_some _ x)⟩
/-- the tuple at a, each item in a new pair -/
def ItE (K : PySem.W.Frag) (a : Addr) : It :=
  ⟨fun i H => ∃ (xs : List V) (x : V), SqT K H a xs ∧ xs[i]? = some x, fun i H v H' => ∃ T x, v = .ref T ∧ H T = none ∧ H' = upd H T (.tup [.int (i : Nat), x]) ∧ ∀ xs, SqT K H a xs → xs[i]? = some x, fun i H => ∃ xs : List V, SqT K H a xs ∧ xs.length = i⟩
theorem turn_enumT {P : Program} {w : World} {K : PySem.W.Frag} {elts : List Expr} {kk : Nat} {tpos : Pos} (a e it : Addr) :
    Turn P w K (.Tuple elts kk tpos) (ItE K a) [e, it] e (fun i h => (∃ old, IsEnum h e it ((i : Nat) : Int) old) ∧ h.IsTupleIter it a i ∧ e ≠ it ∧ a ≠ it ∧ a ≠ e) where
  mem := by simp
  obj := fun i h st b hb => by
    obtain ⟨⟨old, he⟩, ⟨o, ho, hc, hd⟩, _⟩ := st
    have e' : b = e ∨ b = it := by simpa using hb
    rcases e' with z | z
    · rw [z]; exact ⟨_, he, fun v q => nomatch q⟩
    · rw [z]; exact ⟨o, ho, fun v q => by rw [hd] at q; cases q⟩
  keep := fun i h h' st k => let ⟨⟨old, he⟩, hi, hne⟩ := st; ⟨⟨old, k e (by simp) _ he⟩, hi.at fun o q => k it (by simp) o q, hne⟩
  item := by
    intro X hP hw hK hc i pins s σ H E I hf st hg
    subst hP hw hK
    obtain ⟨⟨old, he⟩, hit, hne, hai, hae⟩ := st
    obtain ⟨xs, x, hq, hx⟩ := hg
    obtain ⟨its, rv, p, hz⟩ := I.tuple hq
    obtain ⟨u, hu, ru⟩ := rv.get hx
    have hel : e < s.heap.objs.size := Heap.lt_size he
    have hil : it < s.heap.objs.size := by obtain ⟨_, q, _⟩ := hit; exact Heap.lt_size q
    have hlen : i < its.toArray.size := by
      have := (List.getElem?_eq_some_iff.mp hu).1
      simpa using this
    refine wpAny_pyNext_enum_itemD (Draws.tuple (show X.A.in1.handled = none from I.ok.hd hc) it a hai its.toArray) he ⟨hit, p⟩ hlen hne (by simp [hne, Ne.symm hae]) fun x' h' tk hP' ho hit' hT hsz hk => ?_
    have ex' : x' = u := by
      have q : its[i]? = some x' := by simpa using hP'
      rw [hu] at q
      exact (Option.some.inj q).symm
    subst ex'
    refine ⟨_, rfl, wpAny_letOwnedTupleGo_enum (s := { s with heap := h', toks := tk + 1 }) ho fun h'' he' sb => ?_⟩
    have hT2 : h''.get? s.heap.objs.size = some { cls := .type "tuple", data := .seq #[.int i tk, x'] } := (sb.2 _ (Nat.ne_of_gt hel)).trans hT
    have new : ObjOk X.prog X.w (upd H s.heap.objs.size (.tup [.int (i : Nat), x])) h'' s.heap.objs.size (.tup [.int (i : Nat), x]) :=
      ⟨by show 2 ≤ sizeLine; decide, [.int i tk, x'], .cons ⟨_, rfl⟩ (.cons ru .nil), ⟨_, hT2, rfl, _, rfl⟩⟩
    have I1 : Inv X pins σ (upd H s.heap.objs.size (.tup [.int (i : Nat), x])) { s with heap := h'', toks := tk + 1 } :=
      I.turnedNew (ch := [e, it]) (fun b ob hb q => (sb.2 b (fun z => hb (by simp [z]))).trans (hk b ob (fun z => hb (by simp [z])) (fun z => hb (by simp [z])) q)) hf (Nat.le_refl _) new
    refine ⟨.ref s.heap.objs.size, _, I1, rfl, ⟨_, x, rfl, I.hok.fresh (Nat.le_refl _), rfl, fun ys hy => by rw [I.tuple_inj hy hq]; exact hx⟩, ⟨⟨x', ?_⟩, hit'.1.at fun o q => (sb.2 it (Ne.symm hne)).trans q, hne, hai, hae⟩, fun b hb => ?_⟩
    · have e1 : ((i + 1 : Nat) : Int) = (i : Int) + 1 := by omega
      rw [e1]; exact he'
    · have hb' : b < s.heap.objs.size := by
        have e' : b = e ∨ b = it := by simpa using hb
        rcases e' with z | z
        · rw [z]; exact hel
        · rw [z]; exact hil
      rw [upd_ne (Nat.ne_of_lt hb')]
      exact (hf b hb).1
  done := by
    intro X hP hw hK hc i pins s σ H E I hf st hg
    subst hP hw hK
    obtain ⟨⟨old, he⟩, hit, hne, hai, hae⟩ := st
    obtain ⟨xs, hq, hx⟩ := hg
    obtain ⟨its, rv, p, hz⟩ := I.tuple hq
    obtain ⟨f0, f1, f2, f3, f4, f5⟩ := hf it (by simp)
    have hl := rv.length
    have hn : its.toArray.size = i := by simp; omega
    subst hn
    exact wpAny_pyNext_enum_endD (Draws.tuple (show X.A.in1.handled = none from I.ok.hd hc) it a hai its.toArray) he ⟨hit, p⟩ fun h' eb => ⟨rfl, I.turned (t' := s.toks) (fun b o hb q => eb b o hb q) f0 f1 f3 f4 f5⟩
  self := fun A i s Q E st h => let ⟨⟨_, he⟩, _⟩ := st; wpAny_pyIter_enum he h
def iEnumT (K : PySem.W.Frag) (ta : TA) : TI := fun σ H R => ta σ H fun vs H1 => ∃ a xs, vs = [.ref a] ∧ SqT K H1 a xs ∧ R (ItE K a) H1
theorem pi_enumT {X : Cx} {e : Expr} {ta : TA} {p pos tpos : Pos} {elts : List Expr} {kk : Nat} (hg : Gl X "enumerate") (hm : X.mg "enumerate" = none) (ha : PA X [e] ta) (hs : starEach [e] X.env = [(false, eval e X.env)] := by rfl) :
    PI X (.Tuple elts kk tpos) (.Call (.Name "enumerate" p) [e] [] pos) (iEnumT X.K ta) := by
  refine ⟨fun pins s σ H R I h => ?_⟩
  refine Call_ (ld_blt I hg hm boot_enumerate (PyProof.Rows.callWith_type1 (thn (ha.run pos pins s σ H _ I h) fun us s1 ⟨vs, H1, I1, r1, q1⟩ => ?_) hs rfl))
  obtain ⟨a, xs, ex, hq, q⟩ := q1
  subst ex
  cases r1 with
  | cons r rr =>
    cases rr
    cases r
    obtain ⟨its, rv, p', hz⟩ := I1.tuple hq
    have hlt : a < s1.heap.objs.size := p'.lt
    refine call_enumerate_tup p' fun h' he hit hsz hk => wpAny_pyIter_enum he ?_
    have I2 : Inv X pins σ H1 { s1 with heap := h' } := I1.kept (t' := s1.toks) hk
    refine ⟨s1.heap.objs.size + 1, [s1.heap.objs.size + 1, s1.heap.objs.size], _, _, H1, rfl, I2, turn_enumT a (s1.heap.objs.size + 1) s1.heap.objs.size, ⟨⟨.none, he⟩, hit, Nat.succ_ne_self _, Nat.ne_of_lt hlt, Nat.ne_of_lt (Nat.lt_succ_of_lt hlt)⟩, fun b hb => ?_, q⟩
    have e' : b = s1.heap.objs.size + 1 ∨ b = s1.heap.objs.size := by simpa using hb
    have hle : s1.heap.objs.size ≤ b := by
      rcases e' with z | z
      · rw [z]; exact Nat.le_add_right _ _
      · rw [z]; exact Nat.le_refl _
    exact I1.fpOk hle (I1.hok.fresh hle)
theorem walk_enumT {K : PySem.W.Frag} {a : Addr} {xs : List V} : Walk (ItE K a) xs.length (fun H => SqT K H a xs) (YPair (fun i => some (.int (i : Nat))) (fun i => xs[i]?)) :=
  ⟨fun i _ hi q => ⟨xs, xs[i], q, by simp [hi]⟩, fun _ q => ⟨xs, q, rfl⟩, fun i H v H' _ q y => by
    obtain ⟨T, x, e1, e2, e3, e4⟩ := y
    exact ⟨T, _, x, e1, e2, e3, rfl, e4 xs q⟩⟩

/-! ### x, y, z = a, b, c with plain local names -/
def tPar3 (i j k : Nat) (ta : TA) : TS := fun D σ H => ta σ H fun vs H1 => ∃ u v w, vs = [u, v, w] ∧ D.nx (((σ.set i (some u)).set j (some v)).set k (some w)) H1
theorem ps_par3 {X : Cx} {i j k : Nat} {x y z : Str} {a b c : Expr} {ta : TA} {px py pz pt pos : Pos} {kt k2 pt2} (hc : X.calm = true) (hN : X.N.Nodup) (hi : X.N[i]? = some x) (hj : X.N[j]? = some y) (hk : X.N[k]? = some z) (hij : i ≠ j) (hik : i ≠ k) (hjk : j ≠ k)
    (hx : X.env.scope.names.lookup x = some .local) (hy : X.env.scope.names.lookup y = some .local) (hz : X.env.scope.names.lookup z = some .local) (ha : PA X [a, b, c] ta)
    (hw : swappedStores [.Tuple [.Name x px, .Name y py, .Name z pz] kt pt] (.Tuple [a, b, c] k2 pt2) X.env = pure (some [x, y, z]))
    (hs : swapsWithSole [.Tuple [.Name x px, .Name y py, .Name z pz] kt pt] (.Tuple [a, b, c] k2 pt2) pos.line X.env = pure false := by rfl) :
    PS X (.Assign [.Tuple [.Name x px, .Name y py, .Name z pz] kt pt] (.Tuple [a, b, c] k2 pt2) pos) (tPar3 i j k ta) := by
  refine ⟨fun pins s σ H D I h => ?_⟩
  rw [exec_Assign_arm]
  refine wpAny_bind (wpAny_standAt ?_)
  rw [hs]
  refine wpAny_bind (wpAny_pure ?_)
  rw [if_neg (by decide)]
  refine wpAny_bind (Tuple_ (thn (ha.run _ pins s σ H _ I h) fun us s1 ⟨vs, H1, I1, r1, q1⟩ => ?_))
  obtain ⟨v1, v2, v3, e1, q1⟩ := q1
  subst e1
  obtain ⟨u1, u2, u3, rfl, ra, rb, rc⟩ : ∃ u1 u2 u3, us = [u1, u2, u3] ∧ RelV v1 u1 ∧ RelV v2 u2 ∧ RelV v3 u3 := by
    cases r1 with
    | cons p q =>
      cases q with
      | cons p' q' =>
        cases q' with
        | cons p'' q'' =>
          cases q''
          exact ⟨_, _, _, rfl, p, p', p''⟩
  refine wpAny_newObj_type ?_ (by show 3 ≤ sizeLine; decide)
  have I2 : Inv X pins σ H1 { s1 with heap := s1.heap.push { cls := .type "tuple", data := .seq [u1, u2, u3].toArray } } := I1.kept (t' := s1.toks) fun b o e => Heap.get?_push_of_some _ e
  rw [hw]
  refine wpAny_bind (wpAny_pure ?_)
  show wpAny (model X.prog X.w) X.A (do rule "assign.swapped-stores"; let items ← unpackItems (.ref s1.heap.objs.size) 3 none; assignInOrder [fun v => bindName X.env z v, fun v => bindName X.env y v, fun v => bindName X.env x v] items.reverse; pure Flow.next) _ _ _
  refine wpAny_bind (wpAny_rule (wpAny_bind (unpackItems_tuple (items := #[u1, u2, u3]) (I.ok.hd hc) (IsTup.new s1.heap _) fun h' hx' => ?_)))
  have I3 := I2.kept (h' := h') (t' := s1.toks) fun b o e => hx' b o (Nat.ne_of_lt (Heap.lt_size e)) e
  show wpAny _ _ (assignInOrder [fun v => bindName X.env z v, fun v => bindName X.env y v, fun v => bindName X.env x v] [u3, u2, u1] >>= fun _ => pure Flow.next) _ _ _
  refine wpAny_bind (assignInOrder_cons (wpAny_bindName (store_ok I3 hN hk (.inl hz) rc (fun s2 I4 => ?_) (.inr hz))))
  refine assignInOrder_cons (wpAny_bindName (store_ok I4 hN hj (.inl hy) rb (fun s3 I5 => ?_) (.inr hy)))
  refine assignInOrder_cons (wpAny_bindName (store_ok I5 hN hi (.inl hx) ra (fun s4 I6 => assignInOrder_nil (wpAny_pure ?_)) (.inr hx)))
  have e : ((σ.set k (some v3)).set j (some v2)).set i (some v1) = ((σ.set i (some v1)).set j (some v2)).set k (some v3) := by
    rw [List.set_comm _ _ (Ne.symm hjk), List.set_comm _ _ (Ne.symm hik), List.set_comm (some v2) (some v1) (Ne.symm hij)]
  rw [e] at I6
  exact ⟨_, H1, I6, q1⟩
/-! ### sorted of a list of data -/
theorem dpAll_get {K : PySem.W.Frag} {H : Hp} : ∀ {xs : List V} {ds : List PyData}, DpAll K H xs ds → xs.length = ds.length ∧ ∀ (i : Nat) (x : V) (d : PyData), xs[i]? = some x → ds[i]? = some d → Dp K H x d
  | _, _, .nil => ⟨rfl, fun i x d h => by simp at h⟩
  | _, _, .cons h t => ⟨by rw [List.length_cons, List.length_cons, (dpAll_get t).1], fun i x d hx hd => by
    cases i with
    | zero =>
      cases hx
      cases hd
      exact h
    | succ j => exact (dpAll_get t).2 j x d (by simpa using hx) (by simpa using hd)⟩
theorem dpAll_pairs {K : PySem.W.Frag} {H : Hp} : ∀ (zs : List (PyData × V)), (∀ z ∈ zs, Dp K H z.2 z.1) → DpAll K H (zs.map Prod.snd) (zs.map Prod.fst)
  | [], _ => .nil
  | z :: zs, h => .cons (h z List.mem_cons_self) (dpAll_pairs zs fun y hy => h y (List.mem_cons_of_mem _ hy))
theorem dpAll_zip {K : PySem.W.Frag} {H : Hp} : ∀ {xs : List V} {ds : List PyData}, DpAll K H xs ds → ∀ z ∈ ds.zip xs, Dp K H z.2 z.1
  | _, _, .nil, z, hz => by simp at hz
  | _, _, .cons h t, z, hz => by
    rw [List.zip_cons_cons] at hz
    rcases List.mem_cons.mp hz with e | hz
    · subst e
      exact h
    · exact dpAll_zip t z hz
def rSortedD (K : PySem.W.Frag) : List V → Hp → VK → Prop := fun vs H Q => ∃ (a : Addr) (xs : List V) (ds : List PyData), vs = [V.ref a] ∧ SqL K H a xs ∧ DpAll K H xs ds ∧ PySem.W.AllAlike ds ∧ PySem.W.Sortable ds ∧ (∀ d ∈ ds, d.depth ≤ 60) ∧
  ∀ (xs' : List V) (ds' : List PyData) (p : Addr), ds'.Perm ds → (∀ A : Hp, DpAll K A xs ds → DpAll K A xs' ds') → H p = none → Q (.ref p) (upd H p (.lst xs'))
theorem vals_of_each {α : Type} {f : α → V} : ∀ {us : List Value} {bs : List α}, PySem.W.EachIs (fun u b => RelV (f b) u) us bs → Vals (bs.map f) us
  | _, _, .nil => .nil
  | _, _, .cons h t => .cons h (vals_of_each t)
theorem cr_sortedD {X : Cx} {k : Nat} (hr : Room k X.A) : CallR X (.builtin "sorted") (rSortedD X.K) := by
  intro pins s σ H vs us Q I r h
  obtain ⟨a, xs, ds, rfl, hs, hd, hal, hso, hdp, q⟩ := h
  obtain ⟨its, rv, hl, hz⟩ := I.list hs
  rw [Vals.ref1 r]
  have hlen : xs.length = ds.length := (dpAll_get hd).1
  have zl : (ds.zip xs).map Prod.snd = xs := List.map_snd_zip (by omega)
  have zf : (ds.zip xs).map Prod.fst = ds := List.map_fst_zip (by omega)
  have hzl : (ds.zip xs).length = xs.length := by rw [List.length_zip]; omega
  have e0 : ∀ {us : List Value} {zs : List (PyData × V)}, Vals (zs.map Prod.snd) us → PySem.W.EachIs (fun u (b : PyData × V) => RelV b.2 u) us zs := by
    intro us zs
    induction zs generalizing us with
    | nil =>
      intro v
      rw [List.map_nil] at v
      cases v
      exact .nil
    | cons z zs ih =>
      intro v
      rw [List.map_cons] at v
      cases v with
      | cons h t => exact .cons h (ih t)
  have e : PySem.W.EachIs (fun u (b : PyData × V) => RelV b.2 u) its (ds.zip xs) := e0 (by rw [zl]; exact rv)
  have er0 : ∀ {us : List Value} {zs : List (PyData × V)}, (∀ z ∈ zs, Dp X.K H z.2 z.1) → PySem.W.EachIs (fun u (b : PyData × V) => RelV b.2 u) us zs → PySem.W.EachIs (fun v (b : PyData × V) => ∃ as, Reads s.heap v (Prod.fst b) as) us zs := by
    intro us zs
    induction zs generalizing us with
    | nil =>
      intro _ v
      cases v
      exact .nil
    | cons z zs ih =>
      intro hD v
      cases v with
      | cons h t => exact .cons (Dp.reads I z.1 z.2 _ (hD z List.mem_cons_self) h) (ih (fun y hy => hD y (List.mem_cons_of_mem _ hy)) t)
  have er := er0 (dpAll_zip hd) e
  have hzs : its.toArray.toList = its := rfl
  refine PySem.W.sorted_data (enc := Prod.fst) (vs := its) hl.isList e er (by rw [zf]; exact hal) (by rw [zf]; exact hso) (by rw [hzl]; exact hz) (fun b hb => ?_) fun out h1 h2 => ?_
  · have h1 : b.1 ∈ ds := by
      have : b.1 ∈ (ds.zip xs).map Prod.fst := List.mem_map.mpr ⟨b, hb, rfl⟩
      rw [zf] at this
      exact this
    have h2 := hdp b.1 h1
    have h3 := hr.un
    omega
  · obtain ⟨ep, he'⟩ := PyProof.Rows.sortedAll_at s.heap its (List.toArray out)
    generalize hms : (ds.zip xs).mergeSort (PySem.W.dataLe false Prod.fst) = zs at h2
    have hperm : zs.Perm (ds.zip xs) := by
      rw [← hms]
      exact List.mergeSort_perm _ _
    have hv : Vals (zs.map Prod.snd) out := vals_of_each (f := Prod.snd) h2
    have hln : (zs.map Prod.snd).length ≤ sizeLine := by
      rw [List.length_map, hperm.length_eq, hzl]
      exact hz
    refine ⟨.ref _, upd H (s.heap.objs.size + 1) (.lst (zs.map Prod.snd)), I.laid (t' := s.toks) (fun _ _ => PyProof.Rows.sortedAll_old) (Nat.le_succ _) ⟨hln, out, ep, hv, he'⟩, rfl, q (zs.map Prod.snd) (zs.map Prod.fst) _ ?_ ?_ (I.hok.fresh (Nat.le_succ _))⟩
    · have := hperm.map Prod.fst
      rw [zf] at this
      exact this
    · exact fun A hA => dpAll_pairs zs fun z hz => dpAll_zip hA z (hperm.mem_iff.mp hz)

/-! ### {k: v} with a tuple for its key -/
def AnyO (a : Addr) : HO := .ext fun h => ∃ o, h.get? a = some o
def tDispT (tk tv : TE) : TE := fun σ H Q => ∀ p, H p = none → tk σ (upd H p (.dT [])) fun x H1 => tv σ H1 fun y H2 => H2 p = some (.dT []) ∧ ∃ (b : Addr) (ks : List Key), x = .ref b ∧ H2 b = some (.tup (ks.map kV)) ∧ Q (.ref p) (upd H2 p (.dT [(ks, y)]))
theorem pe_dispK {X : Cx} {pos : Pos} {k v : Expr} {tk tv : TE} (hu : X.A.units + 1 < cLine) (hk : PE X k tk) (hv : PE X v tv) : PE X (.Dict [some k] [v] pos) (tDispT tk tv) := by
  refine ⟨fun pins s σ H Q I q => ?_⟩
  have hn := I.hok.fresh (Nat.le_refl s.heap.objs.size)
  have I1 := I.laid (a := s.heap.objs.size) (o := .dT []) (h' := s.heap.push { cls := .type "dict", data := .dict #[] }) (t' := s.toks) (fun _ _ q => Heap.get?_push_of_some _ q) (Nat.le_refl _) (dt_empty s.heap I.big)
  rw [arm_eval_Dict, zip_pairTrees [some k] [v] X.env pos rfl rfl, dictDisplay_pairs (pairTrees [some k] [v] X.env pos) (by
    intro z
    have := pairTrees_length [some k] [v] X.env pos rfl rfl
    rw [z] at this
    simp at this) (by rw [pairTrees_length [some k] [v] X.env pos rfl rfl]; show 1 < 17; decide)]
  refine wpAny_bind (wpAny_standAt (wpAny_bind (wpAny_subDictH (knd := tupleKind (mixKind X.prog X.w)) (Q := fun d s' => wpAny (model X.prog X.w) X.A (pure (Value.ref d)) (EP X pins σ Q) X.xe s') (by show X.A.units < cLine; omega) (by rw [pairTrees_length [some k] [v] X.env pos rfl rfl]; show 1 ≤ 15; decide) ?_)))
  refine pairTrees_cons_walk (thn (hk.run pins _ σ _ _ I1 (q _ hn)) fun u s1 ⟨x, H1, I1', rx, q1⟩ => thn (hv.run pins s1 σ H1 _ I1' q1) fun w2 s2 ⟨y, H2, I2, ry, q2⟩ => pairTrees_nil_walk ?_)
  obtain ⟨e, b, ks, ex, eb, q2⟩ := q2
  subst ex
  cases (show u = Value.ref b from rx)
  obtain ⟨z, hd, xs, rel, dd⟩ := dt_of I2.hok e
  cases rel
  refine ⟨[(ks, b, w2)], ⟨rfl, rfl, key_of I2.hok eb, trivial⟩, dd, fun h' tk' dd' hs => wpAny_pure ⟨.ref s.heap.objs.size, _, ?_, rfl, q2⟩⟩
  obtain ⟨o', es, ep, hq, h2, h3, h4, _, h5⟩ := dd'
  refine d_write I2 (by rw [e]; exact True.intro) hs ⟨o', hq⟩ ⟨by show 1 ≤ sizeLine; decide, hd, [(ks, b, w2)], .cons ⟨rfl, ?_, ry⟩ .nil, o', es, ep, hq, h2, h3, h4, h5⟩
  show upd H2 s.heap.objs.size (.dT [(ks, y)]) b = some (.tup (ks.map kV))
  rw [upd_ne (ne_of eb e (fun z => nomatch z))]
  exact eb

def leafV : Leaf → V
  | .none => .non
  | .num i => .int i
  | .text x => .str x
theorem leaf_is {k : Leaf} {u : Value} (r : RelV (leafV k) u) : Leaf.isOf k u = true := by
  cases k with
  | none =>
    cases (show u = Value.none from r)
    rfl
  | num i =>
    obtain ⟨t, rfl⟩ := (show ∃ t, u = Value.int i t from r)
    show Value.isInt i (Value.int i t) = true
    simp [Value.isInt]
  | text x =>
    obtain ⟨t, rfl⟩ := (show ∃ t, u = Value.str x t from r)
    show Value.isStrOf x (Value.str x t) = true
    simp [Value.isStrOf]
theorem leaves_are {P : Program} {w : World} : ∀ {ks : List Leaf} {us : List Value}, Vals (ks.map leafV) us → ItemsAre (leafKind P w) ks us
  | [], _, r => by
    rw [List.map_nil] at r
    cases r
    exact .nil
  | k :: ks, _, r => by
    rw [List.map_cons] at r
    cases r with
    | cons h t => exact .cons (leaf_is h) (leaves_are t)
theorem key_leaf {P : Program} {w : World} {H : Hp} {h : Heap} {a : Addr} {ks : List Leaf} (ok : HOk P w H h) (e : H a = some (.tup (ks.map leafV))) : (tupleKind (leafKind P w)).is h ks a := by
  obtain ⟨_, its, r, o, h1, h2, n, h3⟩ := (show ObjOk P w H h a (.tup (ks.map leafV)) from ok a _ e)
  exact ⟨o, its.toArray, n, h1, h2, h3, by simpa using leaves_are r⟩
def tDispA (tk tv : TE) : TE := fun σ H Q => ∀ p, H p = none → tk σ (upd H p (.dT [])) fun x H1 => tv σ H1 fun y H2 => H2 p = some (.dT []) ∧ ∃ (b : Addr) (ks : List Leaf), x = .ref b ∧ H2 b = some (.tup (ks.map leafV)) ∧ Q (.ref p) (upd H2 p (AnyO p))
theorem pe_dispA {X : Cx} {pos : Pos} {k v : Expr} {tk tv : TE} (hu : X.A.units + 1 < cLine) (hk : PE X k tk) (hv : PE X v tv) : PE X (.Dict [some k] [v] pos) (tDispA tk tv) := by
  refine ⟨fun pins s σ H Q I q => ?_⟩
  have hn := I.hok.fresh (Nat.le_refl s.heap.objs.size)
  have I1 := I.laid (a := s.heap.objs.size) (o := .dT []) (h' := s.heap.push { cls := .type "dict", data := .dict #[] }) (t' := s.toks) (fun _ _ q => Heap.get?_push_of_some _ q) (Nat.le_refl _) (dt_empty s.heap I.big)
  rw [arm_eval_Dict, zip_pairTrees [some k] [v] X.env pos rfl rfl, dictDisplay_pairs (pairTrees [some k] [v] X.env pos) (by
    intro z
    have := pairTrees_length [some k] [v] X.env pos rfl rfl
    rw [z] at this
    simp at this) (by rw [pairTrees_length [some k] [v] X.env pos rfl rfl]; show 1 < 17; decide)]
  refine wpAny_bind (wpAny_standAt (wpAny_bind (wpAny_subDictH (knd := tupleKind (leafKind X.prog X.w)) (Q := fun d s' => wpAny (model X.prog X.w) X.A (pure (Value.ref d)) (EP X pins σ Q) X.xe s') (by show X.A.units < cLine; omega) (by rw [pairTrees_length [some k] [v] X.env pos rfl rfl]; show 1 ≤ 15; decide) ?_)))
  refine pairTrees_cons_walk (thn (hk.run pins _ σ _ _ I1 (q _ hn)) fun u s1 ⟨x, H1, I1', rx, q1⟩ => thn (hv.run pins s1 σ H1 _ I1' q1) fun w2 s2 ⟨y, H2, I2, ry, q2⟩ => pairTrees_nil_walk ?_)
  obtain ⟨e, b, ks, ex, eb, q2⟩ := q2
  subst ex
  cases (show u = Value.ref b from rx)
  obtain ⟨z, hd, xs, r, ob, es, ep, g1, g2, g3, g4, g5⟩ := (show ObjOk X.prog X.w H2 s2.heap s.heap.objs.size (.dT []) from I2.hok _ _ e)
  cases r
  have dd : s2.heap.DictOfH (tupleKind (leafKind X.prog X.w)) s.heap.objs.size [] := ⟨ob, es, ep, g1, g2, g3, g4, (fun x hx => absurd hx (by simp)), List.nodup_nil⟩
  refine ⟨[(ks, b, w2)], ⟨rfl, rfl, key_leaf I2.hok eb, trivial⟩, dd, fun h' tk' dd' hs => wpAny_pure ⟨.ref s.heap.objs.size, _, ?_, rfl, q2⟩⟩
  obtain ⟨o', es', ep', hq, _⟩ := dd'
  exact d_write I2 (by rw [e]; exact True.intro) hs ⟨o', hq⟩ ⟨⟨o', hq⟩, ⟨o', hq⟩, fun h1 h2 ⟨o, z⟩ k => ⟨o, k o z⟩⟩
/-- one key, a tuple -/
def tDisp1 (tk tv : TE) : TE := fun σ H Q => tDispT tk tv σ H Q ∨ tDispA tk tv σ H Q
theorem pe_dispT {X : Cx} {pos : Pos} {k v : Expr} {tk tv : TE} (hu : X.A.units + 1 < cLine) (hk : PE X k tk) (hv : PE X v tv) : PE X (.Dict [some k] [v] pos) (tDisp1 tk tv) :=
  ⟨fun pins s σ H Q I h => h.elim (fun z => (pe_dispK hu hk hv).run pins s σ H Q I z) (fun z => (pe_dispA hu hk hv).run pins s σ H Q I z)⟩
/-! ### the same rules, the written part K told apart from the context -/
def rLen (K : PySem.W.Frag) : List V → Hp → VK → Prop := fun xs H Q => ∃ x n, xs = [x] ∧ LenV K x H n ∧ Q (.int n) H
def rTupOf (K : PySem.W.Frag) : List V → Hp → VK → Prop := fun xs H Q => ∃ p ys, xs = [.ref p] ∧ ((SqL K H p ys ∧ ∀ l, H l = none → Q (.ref l) (upd H l (.tup ys))) ∨ (SqT K H p ys ∧ Q (.ref p) H))
def rLstOf (K : PySem.W.Frag) : List V → Hp → VK → Prop := fun xs H Q => ∃ p ys, xs = [.ref p] ∧ (SqL K H p ys ∨ SqT K H p ys) ∧ ∀ l, H l = none → Q (.ref l) (upd H l (.lst ys))
def rMin2 : List V → Hp → VK → Prop := fun xs H Q => ∃ i j, xs = [.int i, .int j] ∧ Q (.int (if j < i then j else i)) H
def rAbs : List V → Hp → VK → Prop := fun xs H Q => ∃ i, xs = [.int i] ∧ Q (.int (if i < 0 then -i else i)) H
def rIntOf : List V → Hp → VK → Prop := fun xs H Q => (∃ i, xs = [.int i] ∧ Q (.int i) H) ∨ ∃ k, xs = [.bl k] ∧ Q (.int (if k then 1 else 0)) H
def rSIdx : V → List V → Hp → VK → Prop := fun x xs H Q => ∃ a b i rest, x = .str a ∧ xs = [.str b] ∧ Builtin.Str.occurrences a b 0 a.length 1 = i :: rest ∧ Q (.int (i : Nat)) H
def rJoin (K : PySem.W.Frag) : V → List V → Hp → VK → Prop := fun x xs H Q => ∃ a p, ∃ ys : List Str, x = .str a ∧ xs = [.ref p] ∧ (SqL K H p (ys.map V.str) ∨ SqT K H p (ys.map V.str)) ∧
      (ys.map (·.length)).sum + ys.length * a.length ≤ 16777216 ∧ Q (.str (Txt.join a ys)) H
section
variable {X : Cx} {k : Nat} (K : PySem.W.Frag)
theorem ix_K (h : X.K = K := by rfl) : IxR X (rIx K) := by subst h; exact ix_seq
theorem sl_K (h : X.K = K := by rfl) : SlR X (rSlAny K) := by subst h; exact sl_any
theorem plus_K (h : X.K = K := by rfl) : OpR X (binaryOp .Add) (rPlus K) := by subst h; exact op_plus
theorem eq_K (hr : Room k X.A) (h : X.K = K := by rfl) : OpR X (compareOp .Eq) (rEqA K) := by subst h; exact op_eqA hr
theorem ne_K (hr : Room k X.A) (h : X.K = K := by rfl) : OpR X (compareOp .NotEq) (rNeA K) := by subst h; exact op_neA hr
theorem in_K (hr : Room k X.A) (h : X.K = K := by rfl) : OpR X (compareOp .In) (rInA K false) := by subst h; exact op_inA hr
theorem ni_K (hr : Room k X.A) (h : X.K = K := by rfl) : OpR X (compareOp .NotIn) (rInA K true) := by subst h; exact op_niA hr
variable {e o a b : Expr} {es : List Expr} {te ta tb to : TE} {t : TA} {x f : Str} {p pos apos cpos : Pos} {tg : Expr}
theorem fld_K (he : PE X e ta) (h : X.K = K := by rfl) (hb : attributeBase e f X.env (eval e X.env) = eval e X.env := by rfl) : PE X (.Attribute e f pos) (tFld K ta f) := by subst h; exact pe_fld he hb
theorem list_K (hl : PE X e te) (h : X.K = K := by rfl) : PI X tg e (iList K te) := by subst h; exact pi_list hl
theorem tup_K (hl : PE X e te) (h : X.K = K := by rfl) : PI X tg e (iTup K te) := by subst h; exact pi_tup hl
theorem or_K (ha : PE X a ta) (hb : PE X (.BoolOp .Or (b :: es) pos) tb) (h : X.K = K := by rfl) : PE X (.BoolOp .Or (a :: b :: es) pos) (tOrT K ta tb) := by subst h; exact pe_orT ha hb
theorem gtup_K {t : TGs} {n : Nat} {k : Nat} (hc : X.calm = true) (hg : PGs X es t) (h : X.K = K := by rfl) (hn : (assignEach es X.env).length = n := by rfl) (hst : (assignEach es X.env).findIdx? (·.1) = none := by rfl) : PG X (.Tuple es k pos) (gTup K n t) := by
  subst h
  exact pg_tup hc hg hn hst
theorem bm_K {T id : String} {name : Str} {r : V → List V → Hp → VK → Prop} (pa : PlainAttrs T) (slot : Slot T name id) (hty : typeOf (.builtin id) = pure (.type "method_descriptor")) (hm : MtR X id r) (ho : PE X o to) (ha : PA X (e :: es) t) (h : X.K = K := by rfl)
    (hbase : attributeBase o name X.env (eval o X.env) = eval o X.env := by rfl)
    (hfew : ((backTo cpos (starEach (e :: es) X.env)).all (fun x => !x.1) && (backToKw cpos (keywordEach [] X.env)).all (fun x => x.1.isSome)
      && decide ((e :: es).length + ([] : List Keyword).length + (if ([] : List Keyword).isEmpty then 0 else 1) < 30)) = true := by rfl)
    (hline : (apos.endLine == cpos.line) = true := by rfl) (hs : starEach (e :: es) X.env = (false, eval e X.env) :: starEach es X.env := by rfl) (hplain : (backTo cpos (starEach es X.env)).any (·.1) = false := by rfl) :
    PE X (.Call (.Attribute o name apos) (e :: es) [] cpos) (tBM K T r to t) := by
  subst h
  exact pe_bm pa slot hty hm ho ha hbase hfew hline hs hplain
theorem lindex_K (h : X.K = K := by rfl) : MtR X "list.index" (rIndex K) := by subst h; exact mt_index
theorem sindex_R : MtR X "str.index" rSIdx := mt_sindex
theorem join_K (ho : PE X o to) (he : PE X e te) (h : X.K = K := by rfl) (hs : starEach [e] X.env = [(false, eval e X.env)] := by rfl) (hbase : attributeBase o "join" X.env (eval o X.env) = eval o X.env := by rfl) (hline : (apos.endLine == pos.line) = true := by rfl) :
    PE X (.Call (.Attribute o "join" apos) [e] [] pos) (tM1 (rJoin K) to te) := by
  subst h
  exact pe_join ho he hs hbase hline
theorem enum_K {tpos : Pos} {elts : List Expr} {kk : Nat} (hg : Gl X "enumerate") (hm : X.mg "enumerate" = none) (ha : PA X [e] t) (h : X.K = K := by rfl) (hs : starEach [e] X.env = [(false, eval e X.env)] := by rfl) :
    PI X (.Tuple elts kk tpos) (.Call (.Name "enumerate" p) [e] [] pos) (iEnumT K t) := by
  subst h
  exact pi_enumT hg hm ha hs
theorem b_len (hg : Gl X "len") (hm : X.mg "len" = none) (ha : PA X (e :: es) t) (h : X.K = K := by rfl) (he : starEach (e :: es) X.env = (false, eval e X.env) :: starEach es X.env := by rfl) (hpl : (backTo pos (starEach es X.env)).any (·.1) = false := by rfl) : PE X (.Call (.Name "len" p) (e :: es) [] pos) (tCB (rLen K) t) := by
  subst h
  exact pe_callB call_len hg hm (by decide +kernel) ha (by decide) (by decide) he hpl
theorem b_min2 (hc : X.calm = true) (hg : Gl X "min") (hm : X.mg "min" = none) (ha : PA X (e :: es) t) (h : X.K = K := by rfl) (he : starEach (e :: es) X.env = (false, eval e X.env) :: starEach es X.env := by rfl) (hpl : (backTo pos (starEach es X.env)).any (·.1) = false := by rfl) : PE X (.Call (.Name "min" p) (e :: es) [] pos) (tCB rMin2 t) := by
  subst h
  exact pe_callB (call_min2 hc) hg hm (by decide +kernel) ha (by decide) (by decide) he hpl
theorem b_min1 (hc : X.calm = true) (hg : Gl X "min") (hm : X.mg "min" = none) (ha : PA X (e :: es) t) (h : X.K = K := by rfl) (he : starEach (e :: es) X.env = (false, eval e X.env) :: starEach es X.env := by rfl) (hpl : (backTo pos (starEach es X.env)).any (·.1) = false := by rfl) : PE X (.Call (.Name "min" p) (e :: es) [] pos) (tCB (rMin K) t) := by
  subst h
  exact pe_callB (cr_min hc) hg hm (by decide +kernel) ha (by decide) (by decide) he hpl
theorem b_abs (hg : Gl X "abs") (hm : X.mg "abs" = none) (ha : PA X (e :: es) t) (h : X.K = K := by rfl) (he : starEach (e :: es) X.env = (false, eval e X.env) :: starEach es X.env := by rfl) (hpl : (backTo pos (starEach es X.env)).any (·.1) = false := by rfl) : PE X (.Call (.Name "abs" p) (e :: es) [] pos) (tCB rAbs t) := by
  subst h
  exact pe_callB call_abs hg hm (by decide +kernel) ha (by decide) (by decide) he hpl
theorem b_any (hc : X.calm = true) (hg : Gl X "any") (hm : X.mg "any" = none) (ha : PA X (e :: es) t) (h : X.K = K := by rfl) (he : starEach (e :: es) X.env = (false, eval e X.env) :: starEach es X.env := by rfl) (hpl : (backTo pos (starEach es X.env)).any (·.1) = false := by rfl) : PE X (.Call (.Name "any" p) (e :: es) [] pos) (tCB (rAny K) t) := by
  subst h
  exact pe_callB (cr_any hc) hg hm (by decide +kernel) ha (by decide) (by decide) he hpl
theorem b_all (hc : X.calm = true) (hg : Gl X "all") (hm : X.mg "all" = none) (ha : PA X (e :: es) t) (h : X.K = K := by rfl) (he : starEach (e :: es) X.env = (false, eval e X.env) :: starEach es X.env := by rfl) (hpl : (backTo pos (starEach es X.env)).any (·.1) = false := by rfl) : PE X (.Call (.Name "all" p) (e :: es) [] pos) (tCB (rAll K) t) := by
  subst h
  exact pe_callB (cr_all hc) hg hm (by decide +kernel) ha (by decide) (by decide) he hpl
theorem b_sortedI (hg : Gl X "sorted") (hm : X.mg "sorted" = none) (ha : PA X (e :: es) t) (h : X.K = K := by rfl) (he : starEach (e :: es) X.env = (false, eval e X.env) :: starEach es X.env := by rfl) (hpl : (backTo pos (starEach es X.env)).any (·.1) = false := by rfl) : PE X (.Call (.Name "sorted" p) (e :: es) [] pos) (tCB (rSorted K) t) := by
  subst h
  exact pe_callB cr_sorted hg hm (by decide +kernel) ha (by decide) (by decide) he hpl
theorem b_sortedD (hr : Room k X.A) (hg : Gl X "sorted") (hm : X.mg "sorted" = none) (ha : PA X (e :: es) t) (h : X.K = K := by rfl) (he : starEach (e :: es) X.env = (false, eval e X.env) :: starEach es X.env := by rfl) (hpl : (backTo pos (starEach es X.env)).any (·.1) = false := by rfl) : PE X (.Call (.Name "sorted" p) (e :: es) [] pos) (tCB (rSortedD K) t) := by
  subst h
  exact pe_callB (cr_sortedD hr) hg hm (by decide +kernel) ha (by decide) (by decide) he hpl
theorem b_isi (hg : Gl X "isinstance") (hm : X.mg "isinstance" = none) (ha : PA X (e :: es) t) (h : X.K = K := by rfl) (he : starEach (e :: es) X.env = (false, eval e X.env) :: starEach es X.env := by rfl) (hpl : (backTo pos (starEach es X.env)).any (·.1) = false := by rfl) : PE X (.Call (.Name "isinstance" p) (e :: es) [] pos) (tCB (rIsi K) t) := by
  subst h
  exact pe_callB call_isi hg hm (by decide +kernel) ha (by decide) (by decide) he hpl
theorem b_int (hg : Gl X "int") (hm : X.mg "int" = none) (ha : PA X (e :: es) t) (h : X.K = K := by rfl) (he : starEach (e :: es) X.env = (false, eval e X.env) :: starEach es X.env := by rfl) (hpl : (backTo pos (starEach es X.env)).any (·.1) = false := by rfl) : PE X (.Call (.Name "int" p) (e :: es) [] pos) (tCB rIntOf t) := by
  subst h
  exact pe_callTy call_int1 hg hm (by decide +kernel) ha (by decide) (by decide) he hpl
theorem b_tuple (hg : Gl X "tuple") (hm : X.mg "tuple" = none) (ha : PA X (e :: es) t) (h : X.K = K := by rfl) (he : starEach (e :: es) X.env = (false, eval e X.env) :: starEach es X.env := by rfl) (hpl : (backTo pos (starEach es X.env)).any (·.1) = false := by rfl) : PE X (.Call (.Name "tuple" p) (e :: es) [] pos) (tCB (rTupOf K) t) := by
  subst h
  exact pe_callTy call_tuple_of hg hm (by decide +kernel) ha (by decide) (by decide) he hpl
theorem b_list (hg : Gl X "list") (hm : X.mg "list" = none) (ha : PA X (e :: es) t) (h : X.K = K := by rfl) (he : starEach (e :: es) X.env = (false, eval e X.env) :: starEach es X.env := by rfl) (hpl : (backTo pos (starEach es X.env)).any (·.1) = false := by rfl) : PE X (.Call (.Name "list" p) (e :: es) [] pos) (tCB (rLstOf K) t) := by
  subst h
  exact pe_callTy call_list_of hg hm (by decide +kernel) ha (by decide) (by decide) he hpl
end
def rIs0 : R2 := fun x y H Q => y = .non ∧ Q (.bl (decide (x = .non))) H
def rIs1 : R2 := fun x y H Q => y = .non ∧ Q (.bl (!decide (x = .non))) H
theorem isN_R {X : Cx} : OpR X (compareOp .Is) rIs0 := op_isN
theorem notN_R {X : Cx} : OpR X (compareOp .IsNot) rIs1 := op_notN
-- R2
/-! ### the text by places -/
def top (i : Nat) : Stmt := PySem.Challenge.pw_anytext_k26_whole_no_wrong_paper.main.body.getD i (.Pass ⟨0, 0, 0, 0⟩)
abbrev s_Rw_init : Stmt := inClass (top 6) 0
abbrev N_Rw_init : List Str := ["self", "letters", "lead", "finals", "table", "row"]
theorem sc_Rw_init : FnScope N_Rw_init ["self", "letters", "lead", "finals", "table"] (defScope s_Rw_init) := ⟨rfl, rfl, rfl, by decide +kernel, rfl, by decide +kernel, by decide +kernel⟩
abbrev s_Rw_is_whole : Stmt := inClass (top 6) 1
abbrev N_Rw_is_whole : List Str := ["self", "many", "written", "row", "way", "final", "text", "letter"]
theorem sc_Rw_is_whole : FnScope N_Rw_is_whole ["self"] (defScope s_Rw_is_whole) := ⟨rfl, rfl, rfl, by decide +kernel, rfl, by decide +kernel, by decide +kernel⟩
abbrev s_Rw_way : Stmt := inClass (top 6) 2
abbrev N_Rw_way : List Str := ["self", "state", "letter"]
theorem sc_Rw_way : FnScope N_Rw_way ["self", "state", "letter"] (defScope s_Rw_way) := ⟨rfl, rfl, rfl, by decide +kernel, rfl, by decide +kernel, by decide +kernel⟩
abbrev s_live_states : Stmt := top 8
abbrev N_live_states : List Str := ["rewriter", "live", "grown", "more", "state", "final", "row", "way"]
theorem sc_live_states : FnScope N_live_states ["rewriter"] (defScope s_live_states) := ⟨rfl, rfl, rfl, by decide +kernel, rfl, by decide +kernel, by decide +kernel⟩
abbrev s_live_way : Stmt := top 9
abbrev N_live_way : List Str := ["rewriter", "live", "state", "letter", "way"]
theorem sc_live_way : FnScope N_live_way ["rewriter", "live", "state", "letter"] (defScope s_live_way) := ⟨rfl, rfl, rfl, by decide +kernel, rfl, by decide +kernel, by decide +kernel⟩
abbrev s_common : Stmt := top 10
abbrev N_common : List Str := ["first", "second", "length"]
theorem sc_common : FnScope N_common ["first", "second"] (defScope s_common) := ⟨rfl, rfl, rfl, by decide +kernel, rfl, by decide +kernel, by decide +kernel⟩
abbrev s_owed : Stmt := top 12
abbrev N_owed : List Str := ["first", "second", "shared"]
theorem sc_owed : FnScope N_owed ["first", "second"] (defScope s_owed) := ⟨rfl, rfl, rfl, by decide +kernel, rfl, by decide +kernel, by decide +kernel⟩
abbrev s_Cm_init : Stmt := inClass (top 13) 0
abbrev N_Cm_init : List Str := ["self", "first", "second"]
theorem sc_Cm_init : FnScope N_Cm_init ["self", "first", "second"] (defScope s_Cm_init) := ⟨rfl, rfl, rfl, by decide +kernel, rfl, by decide +kernel, by decide +kernel⟩
abbrev s_Cm_gone : Stmt := inClass (top 13) 1
abbrev N_Cm_gone : List Str := ["self", "k"]
theorem sc_Cm_gone : FnScope N_Cm_gone ["self"] (defScope s_Cm_gone) := ⟨rfl, rfl, rfl, by decide +kernel, rfl, by decide +kernel, by decide +kernel⟩
abbrev s_Cm_spot : Stmt := inClass (top 13) 2
abbrev N_Cm_spot : List Str := ["self", "one", "other", "ahead", "behind"]
theorem sc_Cm_spot : FnScope N_Cm_spot ["self", "one", "other", "ahead", "behind"] (defScope s_Cm_spot) := ⟨rfl, rfl, rfl, by decide +kernel, rfl, by decide +kernel, by decide +kernel⟩
abbrev s_Cm_start : Stmt := inClass (top 13) 3
abbrev N_Cm_start : List Str := ["self", "one", "other"]
theorem sc_Cm_start : FnScope N_Cm_start ["self"] (defScope s_Cm_start) := ⟨rfl, rfl, rfl, by decide +kernel, rfl, by decide +kernel, by decide +kernel⟩
abbrev s_Cm_step : Stmt := inClass (top 13) 4
abbrev N_Cm_step : List Str := ["self", "spot", "letter", "one", "other", "ahead", "behind", "way", "other_way"]
theorem sc_Cm_step : FnScope N_Cm_step ["self", "spot", "letter"] (defScope s_Cm_step) := ⟨rfl, rfl, rfl, by decide +kernel, rfl, by decide +kernel, by decide +kernel⟩
abbrev s_Cm_differs : Stmt := inClass (top 13) 5
abbrev N_Cm_differs : List Str := ["self", "spot", "one", "other", "ahead", "behind", "final", "other_final"]
theorem sc_Cm_differs : FnScope N_Cm_differs ["self", "spot"] (defScope s_Cm_differs) := ⟨rfl, rfl, rfl, by decide +kernel, rfl, by decide +kernel, by decide +kernel⟩
abbrev s_same : Stmt := top 14
abbrev N_same : List Str := ["first", "second", "comparison", "spots", "texts", "at", "spot", "letter", "following", "rows"]
theorem sc_same : FnScope N_same ["first", "second"] (defScope s_same) := ⟨rfl, rfl, rfl, by decide +kernel, rfl, by decide +kernel, by decide +kernel⟩
abbrev s_are_gone : Stmt := top 15
abbrev N_are_gone : List Str := ["rewriter", "states", "state", "way"]
theorem sc_are_gone : FnScope N_are_gone ["rewriter", "states"] (defScope s_are_gone) := ⟨rfl, rfl, rfl, by decide +kernel, rfl, by decide +kernel, by decide +kernel⟩
abbrev s_row_holds : Stmt := top 16
abbrev N_row_holds : List Str := ["first", "second", "paper", "row", "gone", "other_gone", "rows", "one", "other", "ahead", "behind", "ends", "letter", "way", "other_way", "stops"]
theorem sc_row_holds : FnScope N_row_holds ["first", "second", "paper", "row"] (defScope s_row_holds) := ⟨rfl, rfl, rfl, by decide +kernel, rfl, by decide +kernel, by decide +kernel⟩
abbrev s_judge_same : Stmt := top 17
abbrev N_judge_same : List Str := ["first", "second", "paper", "gone", "other_gone", "rows", "row"]
theorem sc_judge_same : FnScope N_judge_same ["first", "second", "paper"] (defScope s_judge_same) := ⟨rfl, rfl, rfl, by decide +kernel, rfl, by decide +kernel, by decide +kernel⟩
abbrev s_l_cell : Stmt := top 19
abbrev N_l_cell : List Str := ["_law_script", "_law_k"]
theorem sc_l_cell : FnScope N_l_cell ["_law_script", "_law_k"] (defScope s_l_cell) := ⟨rfl, rfl, rfl, by decide +kernel, rfl, by decide +kernel, by decide +kernel⟩
abbrev s_l_numbers : Stmt := top 20
abbrev N_l_numbers : List Str := ["_law_cell_here", "_law_many", "_law_rest", "_law_whole", "_law_numbers_here", "_law_k", "_law_mixed"]
theorem sc_l_numbers : FnScope N_l_numbers ["_law_cell_here", "_law_many"] (defScope s_l_numbers) := ⟨rfl, rfl, rfl, by decide +kernel, rfl, by decide +kernel, by decide +kernel⟩
abbrev s_l_state : Stmt := top 21
abbrev N_l_state : List Str := ["_law_script", "_law_start", "_law_many", "_law_numbers_here", "_law_k", "_law_cell_here"]
theorem sc_l_state : FnScope N_l_state ["_law_script", "_law_start", "_law_many"] (defScope s_l_state) := ⟨rfl, rfl, rfl, by decide +kernel, rfl, by decide +kernel, by decide +kernel⟩
abbrev s_l_next : Stmt := top 22
abbrev N_l_next : List Str := ["_law_state_here", "_law_many", "_law_numbers_here", "_law_place"]
theorem sc_l_next : FnScope N_l_next ["_law_state_here", "_law_many"] (defScope s_l_next) := ⟨rfl, rfl, rfl, by decide +kernel, rfl, by decide +kernel, by decide +kernel⟩
abbrev s_l_letters : Stmt := top 23
abbrev N_l_letters : List Str := ["_law_state_here", "_law_most", "_law_pool", "_law_letters_here", "_law_k", "_law_letter"]
theorem sc_l_letters : FnScope N_l_letters ["_law_state_here", "_law_most"] (defScope s_l_letters) := ⟨rfl, rfl, rfl, by decide +kernel, rfl, by decide +kernel, by decide +kernel⟩
abbrev s_l_texts : Stmt := top 24
abbrev N_l_texts : List Str := ["_law_letters_here", "_law_most", "_law_last", "_law_rows", "_law_k", "_law_longer", "_law_text", "_law_letter"]
theorem sc_l_texts : FnScope N_l_texts ["_law_letters_here", "_law_most"] (defScope s_l_texts) := ⟨rfl, rfl, rfl, by decide +kernel, rfl, by decide +kernel, by decide +kernel⟩
abbrev s_l_word : Stmt := top 25
abbrev N_l_word : List Str := ["_law_letters_here", "_law_state_here", "_law_most", "_law_k"]
theorem sc_l_word : FnScope N_l_word ["_law_letters_here", "_law_state_here", "_law_most"] (defScope s_l_word) := ⟨rfl, rfl, rfl, by decide +kernel, rfl, by decide +kernel, by decide +kernel⟩
abbrev s_l_maker : Stmt := top 26
abbrev N_l_maker : List Str := ["_law_letters_here", "_law_state_here", "_law_most", "_law_many", "_law_k", "_law_finals", "_law_table", "_law_row_here", "_law_letter", "_law_way"]
theorem sc_l_maker : FnScope N_l_maker ["_law_letters_here", "_law_state_here", "_law_most"] (defScope s_l_maker) := ⟨rfl, rfl, rfl, by decide +kernel, rfl, by decide +kernel, by decide +kernel⟩
abbrev s_l_rewrite : Stmt := top 27
abbrev N_l_rewrite : List Str := ["_law_letters_here", "_law_parts", "_law_text", "_law_at", "_law_written", "_law_letter", "_law_way"]
theorem sc_l_rewrite : FnScope N_l_rewrite ["_law_letters_here", "_law_parts", "_law_text"] (defScope s_l_rewrite) := ⟨rfl, rfl, rfl, by decide +kernel, rfl, by decide +kernel, by decide +kernel⟩
abbrev s_l_variant : Stmt := top 28
abbrev N_l_variant : List Str := ["_law_letters_here", "_law_state_here", "_law_parts", "_law_lead", "_law_finals", "_law_table", "_law_many", "_law_k", "_law_late", "_law_cut", "_law_at", "_law_way", "_law_least", "_law_moved", "_law_rows", "_law_row_here", "_law_ends", "_law_order", "_law_j", "_law_new_finals", "_law_new_table", "_law_kept", "_law_key", "_law_letter", "_law_end"]
theorem sc_l_variant : FnScope N_l_variant ["_law_letters_here", "_law_state_here", "_law_parts"] (defScope s_l_variant) := ⟨rfl, rfl, rfl, by decide +kernel, rfl, by decide +kernel, by decide +kernel⟩
abbrev s_l_bend : Stmt := top 29
abbrev N_l_bend : List Str := ["_law_letters_here", "_law_state_here", "_law_parts", "_law_lead", "_law_finals", "_law_table", "_law_kind", "_law_at", "_law_place", "_law_row_here"]
theorem sc_l_bend : FnScope N_l_bend ["_law_letters_here", "_law_state_here", "_law_parts"] (defScope s_l_bend) := ⟨rfl, rfl, rfl, by decide +kernel, rfl, by decide +kernel, by decide +kernel⟩
abbrev s_l_do_the_same : Stmt := top 30
abbrev N_l_do_the_same : List Str := ["_law_letters_here", "_law_first", "_law_second", "_law_text"]
theorem sc_l_do_the_same : FnScope N_l_do_the_same ["_law_letters_here", "_law_first", "_law_second"] (defScope s_l_do_the_same) := ⟨rfl, rfl, rfl, by decide +kernel, rfl, by decide +kernel, by decide +kernel⟩
abbrev s_l_row : Stmt := top 31
abbrev N_l_row : List Str := ["_law_letters_here", "_law_state_here", "_law_many", "_law_others", "_law_word_here", "_law_kind"]
theorem sc_l_row : FnScope N_l_row ["_law_letters_here", "_law_state_here", "_law_many", "_law_others"] (defScope s_l_row) := ⟨rfl, rfl, rfl, by decide +kernel, rfl, by decide +kernel, by decide +kernel⟩
abbrev s_l_spoilt : Stmt := top 32
abbrev N_l_spoilt : List Str := ["_law_letters_here", "_law_state_here", "_law_paper", "_law_many", "_law_others", "_law_gone", "_law_far", "_law_rows", "_law_kind", "_law_at", "_law_row_here"]
theorem sc_l_spoilt : FnScope N_l_spoilt ["_law_letters_here", "_law_state_here", "_law_paper", "_law_many", "_law_others"] (defScope s_l_spoilt) := ⟨rfl, rfl, rfl, by decide +kernel, rfl, by decide +kernel, by decide +kernel⟩
abbrev s_l_all_rows : Stmt := top 33
abbrev N_l_all_rows : List Str := ["_law_letters_here", "_law_many", "_law_others", "_law_rows", "_law_one", "_law_two", "_law_word_here"]
theorem sc_l_all_rows : FnScope N_l_all_rows ["_law_letters_here", "_law_many", "_law_others"] (defScope s_l_all_rows) := ⟨rfl, rfl, rfl, by decide +kernel, rfl, by decide +kernel, by decide +kernel⟩
abbrev s_l_owed : Stmt := top 34
abbrev N_l_owed : List Str := ["_law_one", "_law_other", "_law_at", "_law_k"]
theorem sc_l_owed : FnScope N_l_owed ["_law_one", "_law_other"] (defScope s_l_owed) := ⟨rfl, rfl, rfl, by decide +kernel, rfl, by decide +kernel, by decide +kernel⟩
abbrev s_l_are_gone : Stmt := top 35
abbrev N_l_are_gone : List Str := ["_law_parts", "_law_states", "_law_at", "_law_way"]
theorem sc_l_are_gone : FnScope N_l_are_gone ["_law_parts", "_law_states"] (defScope s_l_are_gone) := ⟨rfl, rfl, rfl, by decide +kernel, rfl, by decide +kernel, by decide +kernel⟩
abbrev s_l_is_row : Stmt := top 36
abbrev N_l_is_row : List Str := ["_law_first", "_law_second", "_law_paper", "_law_row_here", "_law_one", "_law_other", "_law_ahead", "_law_behind", "_law_ends", "_law_k", "_law_way", "_law_far_way", "_law_stops"]
theorem sc_l_is_row : FnScope N_l_is_row ["_law_first", "_law_second", "_law_paper", "_law_row_here"] (defScope s_l_is_row) := ⟨rfl, rfl, rfl, by decide +kernel, rfl, by decide +kernel, by decide +kernel⟩
abbrev s_l_taken : Stmt := top 37
abbrev N_l_taken : List Str := ["_law_first", "_law_second", "_law_paper", "_law_gone", "_law_far", "_law_rows", "_law_row_here"]
theorem sc_l_taken : FnScope N_l_taken ["_law_first", "_law_second", "_law_paper"] (defScope s_l_taken) := ⟨rfl, rfl, rfl, by decide +kernel, rfl, by decide +kernel, by decide +kernel⟩
abbrev s_law : Stmt := top 38
abbrev N_law : List Str := ["_law_script", "_law_state_here", "_law_letters_here", "_law_parts", "_law_near", "_law_first", "_law_paper", "_law_other", "_law_second", "_law_many", "_law_others", "_law_papers", "_law_k", "_law_truth", "_law_each", "_law_told"]
theorem sc_law : FnScope N_law ["_law_script"] (defScope s_law) := ⟨rfl, rfl, rfl, by decide +kernel, rfl, by decide +kernel, by decide +kernel⟩
-- E1
/-! ### data through growing heaps -/
section
variable {K : PySem.W.Frag} {H H' : Hp}
mutual
theorem dp_mono (e : Ex H H') : ∀ {v : V} {d : PyData}, Dp K H v d → Dp K H' v d
  | _, _, .non => .non
  | _, _, .bl b => .bl b
  | _, _, .int i => .int i
  | _, _, .str x => .str x
  | _, _, .lst h a => .lst (ex_l e h) (da_mono e a)
  | _, _, .tup h a => .tup (ex_t e h) (da_mono e a)
theorem da_mono (e : Ex H H') : ∀ {vs : List V} {ds : List PyData}, DpAll K H vs ds → DpAll K H' vs ds
  | _, _, .nil => .nil
  | _, _, .cons h t => .cons (dp_mono e h) (da_mono e t)
end
theorem dp_int {v : V} {i : Int} (h : Dp K H v (.int i)) : v = .int i := by cases h; rfl
theorem dp_str {v : V} {x : Str} (h : Dp K H v (.str x)) : v = .str x := by cases h; rfl
theorem dp_bl {v : V} {b : Bool} (h : Dp K H v (.bool b)) : v = .bl b := by cases h; rfl
theorem dp_non {v : V} (h : Dp K H v .none) : v = .non := by cases h; rfl
theorem dp_tup {v : V} {ds : List PyData} (h : Dp K H v (.tuple ds)) : ∃ a xs, v = .ref a ∧ SqT K H a xs ∧ DpAll K H xs ds := by cases h with | tup h a => exact ⟨_, _, rfl, h, a⟩
theorem dp_lst {v : V} {ds : List PyData} (h : Dp K H v (.list ds)) : ∃ a xs, v = .ref a ∧ SqL K H a xs ∧ DpAll K H xs ds := by cases h with | lst h a => exact ⟨_, _, rfl, h, a⟩
theorem da_len {vs : List V} {ds : List PyData} (h : DpAll K H vs ds) : vs.length = ds.length := (dpAll_get h).1
theorem da_at {vs : List V} {ds : List PyData} (h : DpAll K H vs ds) {i : Nat} {d : PyData} (hd : ds[i]? = some d) : ∃ v, vs[i]? = some v ∧ Dp K H v d := by
  have hl := da_len h
  have hi := (List.getElem?_eq_some_iff.mp hd).1
  exact ⟨vs[i]'(by omega), List.getElem?_eq_getElem (by omega), (dpAll_get h).2 i _ _ (List.getElem?_eq_getElem (by omega)) hd⟩
theorem da_app {vs ws : List V} {ds es : List PyData} (h : DpAll K H vs ds) (h2 : DpAll K H ws es) : DpAll K H (vs ++ ws) (ds ++ es) := by
  induction vs generalizing ds with
  | nil => cases h; exact h2
  | cons v vs ih => cases h with | cons a b => exact .cons a (ih b)
theorem da_take {vs : List V} {ds : List PyData} (h : DpAll K H vs ds) (n : Nat) : DpAll K H (vs.take n) (ds.take n) := by
  induction vs generalizing ds n with
  | nil => cases h; simp; exact .nil
  | cons v vs ih =>
    cases h with
    | cons a b =>
      cases n with
      | zero => exact .nil
      | succ n => exact .cons a (ih b n)
theorem da_drop {vs : List V} {ds : List PyData} (h : DpAll K H vs ds) (n : Nat) : DpAll K H (vs.drop n) (ds.drop n) := by
  induction vs generalizing ds n with
  | nil => cases h; simp; exact .nil
  | cons v vs ih =>
    cases h with
    | cons a b =>
      cases n with
      | zero => exact .cons a b
      | succ n => exact ih b n
theorem da_map {α : Type} {f : α → V} {g : α → PyData} (h : ∀ a, Dp K H (f a) (g a)) : ∀ xs : List α, DpAll K H (xs.map f) (xs.map g)
  | [] => .nil
  | a :: r => .cons (h a) (da_map h r)
theorem da_ints (ns : List Int) : DpAll K H (ns.map V.int) (ns.map PyData.int) := da_map (fun i => .int i) ns
theorem da_strs (ns : List Str) : DpAll K H (ns.map V.str) (ns.map PyData.str) := da_map (fun i => .str i) ns
theorem da_bls (ns : List Bool) : DpAll K H (ns.map V.bl) (ns.map PyData.bool) := da_map (fun i => .bl i) ns
theorem da_to_ints {vs : List V} {ns : List Int} (h : DpAll K H vs (ns.map PyData.int)) : vs = ns.map V.int := by
  induction ns generalizing vs with
  | nil => cases h; rfl
  | cons n ns ih => cases h with | cons a b => rw [dp_int a, ih b]; rfl
theorem da_to_strs {vs : List V} {ns : List Str} (h : DpAll K H vs (ns.map PyData.str)) : vs = ns.map V.str := by
  induction ns generalizing vs with
  | nil => cases h; rfl
  | cons n ns ih => cases h with | cons a b => rw [dp_str a, ih b]; rfl
theorem da_to_bls {vs : List V} {ns : List Bool} (h : DpAll K H vs (ns.map PyData.bool)) : vs = ns.map V.bl := by
  induction ns generalizing vs with
  | nil => cases h; rfl
  | cons n ns ih => cases h with | cons a b => rw [dp_bl a, ih b]; rfl
end

/-! ### steps: what is known of the heap grows, what stands in it stays, what is not known stays unknown; M: what may change -/
structure StpM (M : Addr → Prop) (A B A' B' : Hp) : Prop where
  kn : Ex A A'
  le : Ex A' B'
  al : ∀ a o, ¬ M a → B a = some o → B' a = some o
  sp : ∀ a, B a ≠ none → A a = none → A' a = none
  th : ∀ a, B a ≠ none → B' a ≠ none
abbrev Stp (A B A' B' : Hp) : Prop := StpM (fun _ => False) A B A' B'
section
variable {M : Addr → Prop} {A B A' B' A'' B'' : Hp}
theorem StpM.refl (h : Ex A B) : StpM M A B A B := ⟨Ex.refl _, h, fun _ _ _ z => z, fun _ _ z => z, fun _ z => z⟩
theorem StpM.trans (s : StpM M A B A' B') (t : StpM M A' B' A'' B'') : StpM M A B A'' B'' :=
  ⟨s.kn.trans t.kn, t.le, fun a o m z => t.al a o m (s.al a o m z), fun a z n => t.sp a (s.th a z) (s.sp a z n), fun a z => t.th a (s.th a z)⟩
theorem Stp.up (s : Stp A B A' B') : StpM M A B A' B' := ⟨s.kn, s.le, fun a o _ z => s.al a o (fun q => q) z, s.sp, s.th⟩
theorem StpM.go (s : StpM M A B A' B') (t : Stp A' B' A'' B'') : StpM M A B A'' B'' := s.trans t.up
theorem StpM.ex0 (s : StpM M A B A' B') : Ex A B' := s.kn.trans s.le
theorem Stp.ex (s : Stp A B A' B') : Ex B B' := fun a o z => s.al a o (fun q => q) z
/-- a new object, known from now on -/
theorem StpM.new {p : Addr} {o : HO} (h : Ex A B) (n : B p = none) : StpM M A B (upd A p o) (upd B p o) where
  kn := Ex.new (by
    cases q : A p with
    | none => rfl
    | some u => rw [h p u q] at n; cases n)
  le := fun a u z => by
    by_cases e : a = p
    · rw [e, upd_same] at z ⊢; exact z
    · rw [upd_ne e] at z ⊢; exact h a u z
  al := fun a u _ z => by rw [upd_ne (ne_of_none z n)]; exact z
  sp := fun a z q => by
    have e : a ≠ p := fun e => z (by rw [e]; exact n)
    rw [upd_ne e]; exact q
  th := fun a z q => by
    have e : a ≠ p := fun e => z (by rw [e]; exact n)
    rw [upd_ne e] at q; exact z q
/-- a new object, not known (it will change) -/
theorem StpM.newU {p : Addr} {o : HO} (h : Ex A B) (n : B p = none) : StpM M A B A (upd B p o) where
  kn := Ex.refl _
  le := h.trans (Ex.new n)
  al := fun a u _ z => by rw [upd_ne (ne_of_none z n)]; exact z
  sp := fun a _ q => q
  th := fun a z q => by
    have e : a ≠ p := fun e => z (by rw [e]; exact n)
    rw [upd_ne e] at q; exact z q
/-- a thing that was not there at the start, and is not known, is changed -/
theorem StpM.mut {p : Addr} {o : HO} (s : StpM M A B A' B') (n0 : B p = none ∨ M p) (n : A' p = none) : StpM M A B A' (upd B' p o) where
  kn := s.kn
  le := fun a u z => by rw [upd_ne (ne_of_none z n)]; exact s.le a u z
  al := fun a u m z => by
    have e : a ≠ p := fun e => by
      rcases n0 with n0 | n0
      · rw [e, n0] at z; cases z
      · exact m (by rw [e]; exact n0)
    rw [upd_ne e]; exact s.al a u m z
  sp := s.sp
  th := fun a z q => by
    by_cases e : a = p
    · rw [e, upd_same] at q; cases q
    · rw [upd_ne e] at q; exact s.th a z q
/-- a thing that was not there at the start is known from now on -/
theorem StpM.frz {p : Addr} {o : HO} (s : StpM M A B A' B') (n0 : B p = none) (n : A' p = none) (h : B' p = some o) : StpM M A B (upd A' p o) B' where
  kn := s.kn.trans (Ex.new n)
  le := fun a u z => by
    by_cases e : a = p
    · rw [e, upd_same] at z; rw [e, h]; exact z
    · rw [upd_ne e] at z; exact s.le a u z
  al := s.al
  sp := fun a z q => by
    have e : a ≠ p := fun e => z (by rw [e]; exact n0)
    rw [upd_ne e]; exact s.sp a z q
  th := s.th
theorem ex_none {H H' : Hp} {p : Addr} (e : Ex H H') (h : H' p = none) : H p = none := Evl.fresh_back e h
end

/-! ### what a reading evaluates to -/
def EvP (te : TE) (σ : L2.St) (A0 : Hp) (P : Hp → V → Prop) : Prop := ∀ A B, Ex A0 A → Ex A B → ∀ Q : VK, (∀ v A' B', Stp A B A' B' → P A' v → Q v B') → te σ B Q
abbrev EvD (K : PySem.W.Frag) (te : TE) (σ : L2.St) (A0 : Hp) (d : PyData) : Prop := EvP te σ A0 fun A v => Dp K A v d
def EvT (K : PySem.W.Frag) (tt : TT) (σ : L2.St) (A0 : Hp) (b : Bool) : Prop := ∀ A B, Ex A0 A → Ex A B → ∀ Q : Bool → Hp → Prop, (∀ A' B', Stp A B A' B' → Q b B') → tt σ B Q
def EvA (ta : TA) (σ : L2.St) (A0 : Hp) (P : Hp → List V → Prop) : Prop := ∀ A B, Ex A0 A → Ex A B → ∀ Q : List V → Hp → Prop, (∀ vs A' B', Stp A B A' B' → P A' vs → Q vs B') → ta σ B Q
def EvO (K : PySem.W.Frag) (to : TO) (σ : L2.St) (A0 : Hp) (o : Option Int) : Prop := ∀ A B, Ex A0 A → Ex A B → ∀ Q : Option Int → Hp → Prop, (∀ A' B', Stp A B A' B' → Q o B') → to σ B Q
/-- what a def that changes nothing hands back -/
def Ret (K : PySem.W.Frag) (A B : Hp) (Q : VK) (d : PyData) : Prop := ∀ v A' B', Stp A B A' B' → Dp K A' v d → Q v B'
section
variable {K : PySem.W.Frag} {σ : L2.St} {A0 A1 : Hp} {te ta tb tc : TE} {tt tu : TT} {d : PyData}
theorem EvP.mono {P : Hp → V → Prop} (h : EvP te σ A0 P) (e : Ex A0 A1) : EvP te σ A1 P := fun A B a b Q q => h A B (e.trans a) b Q q
theorem EvP.imp {P P' : Hp → V → Prop} (h : EvP te σ A0 P) (e : ∀ A v, Ex A0 A → P A v → P' A v) : EvP te σ A0 P' := fun A B a b Q q => h A B a b Q fun v A' B' s p => q v A' B' s (e A' v (a.trans s.kn) p)
theorem EvT.mono {b : Bool} (h : EvT K tt σ A0 b) (e : Ex A0 A1) : EvT K tt σ A1 b := fun A B a c Q q => h A B (e.trans a) c Q q
theorem ev_is {d' : PyData} (h : EvD K te σ A0 d) (e : d = d') : EvD K te σ A0 d' := e ▸ h
theorem et_is {b b' : Bool} (h : EvT K tt σ A0 b) (e : b = b') : EvT K tt σ A0 b' := e ▸ h

theorem ev_varP {i : Nat} {v : V} {P : Hp → V → Prop} (h : σ[i]? = some (some v)) (hp : ∀ A, Ex A0 A → P A v) : EvP (tVar i) σ A0 P := fun A B a b Q q => ⟨v, h, q v A B (.refl b) (hp A a)⟩
theorem ev_var {i : Nat} {v : V} (h : σ[i]? = some (some v)) (hd : Dp K A0 v d) : EvD K (tVar i) σ A0 d := ev_varP h fun A a => dp_mono a hd
theorem ev_c {v : V} (hd : ∀ A, Dp K A v d) : EvD K (tC v) σ A0 d := fun A B _ b Q q => q v A B (.refl b) (hd A)
theorem ea_nil {P : Hp → List V → Prop} (h : ∀ A, P A []) : EvA tNil σ A0 P := fun A B _ b Q q => q [] A B (.refl b) (h A)
/-- the arguments one by one -/
theorem ea_consP {tr : TA} {P : Hp → V → Prop} {R : Hp → List V → Prop} (h : EvP te σ A0 P) (hr : ∀ v A, Ex A0 A → P A v → EvA tr σ A fun A' vs => R A' (v :: vs)) : EvA (tCons te tr) σ A0 R := fun A B a b Q q =>
  h A B a b _ fun v A' B' s p => hr v A' (a.trans s.kn) p A' B' (Ex.refl _) s.le _ fun vs A'' B'' t r => q (v :: vs) A'' B'' (s.trans t) r
abbrev EvAD (K : PySem.W.Frag) (ta : TA) (σ : L2.St) (A0 : Hp) (ds : List PyData) : Prop := EvA ta σ A0 fun A vs => DpAll K A vs ds
theorem EvA.mono {tr : TA} {P : Hp → List V → Prop} (h : EvA tr σ A0 P) (e : Ex A0 A1) : EvA tr σ A1 P := fun A B a b Q q => h A B (e.trans a) b Q q
theorem ead_nil : EvAD K tNil σ A0 [] := ea_nil fun _ => .nil
theorem ead_cons {tr : TA} {ds : List PyData} (h : EvD K te σ A0 d) (hr : EvAD K tr σ A0 ds) : EvAD K (tCons te tr) σ A0 (d :: ds) := fun A B a b Q q =>
  h A B a b _ fun v A' B' s p => hr A' B' (a.trans s.kn) s.le _ fun vs A'' B'' t r => q (v :: vs) A'' B'' (s.trans t) (.cons (dp_mono t.kn p) r)
theorem ev_tup {ta : TA} {ds : List PyData} (h : EvAD K ta σ A0 ds) (hl : ds.length ≤ 1000000) : EvD K (tTup ta) σ A0 (.tuple ds) := fun A B a b Q q =>
  h A B a b _ fun vs A' B' s p => ⟨Nat.le_trans (by rw [da_len p]; exact hl) (by decide), fun x hx => q _ (upd A' x (.tup vs)) _ (s.trans (.new s.le hx)) (.tup (SqT.of upd_same) (da_mono (StpM.new (M := fun _ => False) s.le hx).kn p))⟩
theorem ev_lst {ta : TA} {ds : List PyData} (h : EvAD K ta σ A0 ds) (hl : ds.length ≤ 1000000) : EvD K (tLst ta) σ A0 (.list ds) := fun A B a b Q q =>
  h A B a b _ fun vs A' B' s p => ⟨Nat.le_trans (by rw [da_len p]; exact hl) (by decide), fun x hx => q _ (upd A' x (.lst vs)) _ (s.trans (.new s.le hx)) (.lst (SqL.of upd_same) (da_mono (StpM.new (M := fun _ => False) s.le hx).kn p))⟩
/-- two operands, then r by their data -/
theorem ev_op {r : R2} {x y : PyData} (ha : EvD K ta σ A0 x) (hb : EvD K tb σ A0 y) (hr : ∀ A B u v, Ex A0 A → Ex A B → Dp K A u x → Dp K A v y → ∀ Q : VK, (∀ w A' B', Stp A B A' B' → Dp K A' w d → Q w B') → r u v B Q) : EvD K (tOp r ta tb) σ A0 d := fun A B a b Q q =>
  ha A B a b _ fun u A1 B1 s1 p1 => hb A1 B1 (a.trans s1.kn) s1.le _ fun v A2 B2 s2 p2 => hr A2 B2 u v ((a.trans s1.kn).trans s2.kn) s2.le (dp_mono s2.kn p1) p2 Q fun w A3 B3 s3 p3 => q w A3 B3 ((s1.trans s2).trans s3) p3
end
-- E2
section
variable {K : PySem.W.Frag} {σ : L2.St} {A0 A1 : Hp} {te ta tb tc : TE} {tt tu : TT} {d : PyData}
/-- an operation that makes nothing -/
theorem ev_opV {r : R2} {x y : PyData} {w : V} (ha : EvD K ta σ A0 x) (hb : EvD K tb σ A0 y) (hw : ∀ A, Dp K A w d)
    (hr : ∀ A B u v, Ex A0 A → Ex A B → Dp K A u x → Dp K A v y → ∀ Q : VK, Q w B → r u v B Q) : EvD K (tOp r ta tb) σ A0 d :=
  ev_op ha hb fun A B u v e f p q Q k => hr A B u v e f p q Q (k w A B (.refl f) (hw A))
theorem ev_addI {i j : Int} (ha : EvD K ta σ A0 (.int i)) (hb : EvD K tb σ A0 (.int j)) : EvD K (tOp (rPlus K) ta tb) σ A0 (.int (i + j)) :=
  ev_opV ha hb (fun _ => .int _) fun A B u v _ _ p q Q k => .inl ⟨i, j, dp_int p, dp_int q, k⟩
theorem ev_subI {i j : Int} (ha : EvD K ta σ A0 (.int i)) (hb : EvD K tb σ A0 (.int j)) : EvD K (tOp (rI0 fun i j => .int (i - j)) ta tb) σ A0 (.int (i - j)) :=
  ev_opV ha hb (fun _ => .int _) fun A B u v _ _ p q Q k => ⟨i, j, dp_int p, dp_int q, k⟩
theorem ev_mulI {i j : Int} (ha : EvD K ta σ A0 (.int i)) (hb : EvD K tb σ A0 (.int j)) (hc : CMul i j) : EvD K (tOp (rI CMul fun i j => .int (i * j)) ta tb) σ A0 (.int (i * j)) :=
  ev_opV ha hb (fun _ => .int _) fun A B u v _ _ p q Q k => ⟨i, j, dp_int p, dp_int q, hc, k⟩
theorem ev_modI {i j : Int} (ha : EvD K ta σ A0 (.int i)) (hb : EvD K tb σ A0 (.int j)) (hc : j ≠ 0) : EvD K (tOp (rI (fun _ j => j ≠ 0) fun i j => .int (i.fmod j)) ta tb) σ A0 (.int (i.fmod j)) :=
  ev_opV ha hb (fun _ => .int _) fun A B u v _ _ p q Q k => ⟨i, j, dp_int p, dp_int q, hc, k⟩
theorem ev_divI {i j : Int} (ha : EvD K ta σ A0 (.int i)) (hb : EvD K tb σ A0 (.int j)) (hc : CDivN i j) : EvD K (tOp (rI CDivN fun i j => .int (i.fdiv j)) ta tb) σ A0 (.int (i.fdiv j)) :=
  ev_opV ha hb (fun _ => .int _) fun A B u v _ _ p q Q k => ⟨i, j, dp_int p, dp_int q, hc, k⟩
theorem ev_powI {i j : Int} (ha : EvD K ta σ A0 (.int i)) (hb : EvD K tb σ A0 (.int j)) (hc : CPow i j) : EvD K (tOp (rI CPow fun i j => .int (i ^ j.toNat)) ta tb) σ A0 (.int (i ^ j.toNat)) :=
  ev_opV ha hb (fun _ => .int _) fun A B u v _ _ p q Q k => ⟨i, j, dp_int p, dp_int q, hc, k⟩
theorem ev_ltI {i j : Int} (ha : EvD K ta σ A0 (.int i)) (hb : EvD K tb σ A0 (.int j)) : EvD K (tOp (rI0 fun i j => .bl (decide (i < j))) ta tb) σ A0 (.bool (decide (i < j))) :=
  ev_opV ha hb (fun _ => .bl _) fun A B u v _ _ p q Q k => ⟨i, j, dp_int p, dp_int q, k⟩
theorem ev_leI {i j : Int} (ha : EvD K ta σ A0 (.int i)) (hb : EvD K tb σ A0 (.int j)) : EvD K (tOp (rI0 fun i j => .bl (decide (i ≤ j))) ta tb) σ A0 (.bool (decide (i ≤ j))) :=
  ev_opV ha hb (fun _ => .bl _) fun A B u v _ _ p q Q k => ⟨i, j, dp_int p, dp_int q, k⟩
theorem ev_gtI {i j : Int} (ha : EvD K ta σ A0 (.int i)) (hb : EvD K tb σ A0 (.int j)) : EvD K (tOp (rI0 fun i j => .bl (decide (j < i))) ta tb) σ A0 (.bool (decide (j < i))) :=
  ev_opV ha hb (fun _ => .bl _) fun A B u v _ _ p q Q k => ⟨i, j, dp_int p, dp_int q, k⟩
theorem ev_geI {i j : Int} (ha : EvD K ta σ A0 (.int i)) (hb : EvD K tb σ A0 (.int j)) : EvD K (tOp (rI0 fun i j => .bl (decide (j ≤ i))) ta tb) σ A0 (.bool (decide (j ≤ i))) :=
  ev_opV ha hb (fun _ => .bl _) fun A B u v _ _ p q Q k => ⟨i, j, dp_int p, dp_int q, k⟩
theorem ev_addS {x y : Str} (ha : EvD K ta σ A0 (.str x)) (hb : EvD K tb σ A0 (.str y)) (hl : x.length + y.length ≤ 1000000) : EvD K (tOp (rPlus K) ta tb) σ A0 (.str (x ++ y)) :=
  ev_opV ha hb (fun _ => .str _) fun A B u v _ _ p q Q k => .inr (.inl ⟨x, y, dp_str p, dp_str q, Nat.le_trans hl (by decide), k⟩)
theorem ev_addT {xs ys : List PyData} (ha : EvD K ta σ A0 (.tuple xs)) (hb : EvD K tb σ A0 (.tuple ys)) (hl : xs.length + ys.length ≤ 1000000) : EvD K (tOp (rPlus K) ta tb) σ A0 (.tuple (xs ++ ys)) :=
  ev_op ha hb fun A B u v _ f p q Q k => by
    obtain ⟨a, us, rfl, ha, pa⟩ := dp_tup p
    obtain ⟨b, ws, rfl, hb, pb⟩ := dp_tup q
    refine .inr (.inr (.inr ⟨a, b, us, ws, rfl, rfl, ex_t f ha, ex_t f hb, ?_, fun z => ?_, fun _ z => ?_, fun _ _ x hx => ?_⟩))
    · rw [da_len pa, da_len pb]; exact Nat.le_trans hl (by decide)
    · refine k _ A B (.refl f) ?_
      subst z
      cases pa
      exact .tup hb pb
    · refine k _ A B (.refl f) ?_
      subst z
      cases pb
      rw [List.append_nil]
      exact .tup ha pa
    · exact k _ (upd A x (.tup (us ++ ws))) _ (.new f hx) (.tup (SqT.of upd_same) (da_mono (StpM.new (M := fun _ => False) f hx).kn (da_app pa pb)))
theorem ev_ixT {ds : List PyData} {i : Int} {j : Nat} (ha : EvD K ta σ A0 (.tuple ds)) (hb : EvD K tb σ A0 (.int i)) (e : i = (j : Int)) (hd : ds[j]? = some d) : EvD K (tOp (rIx K) ta tb) σ A0 d :=
  ev_op ha hb fun A B u v _ f p q Q k => by
    obtain ⟨a, us, rfl, ha, pa⟩ := dp_tup p
    obtain ⟨w, hw, pw⟩ := da_at pa hd
    exact .inr (.inl ⟨a, us, i, w, rfl, dp_int q, ex_t f ha, by rw [e]; exact atI_nat hw, k w A B (.refl f) pw⟩)
theorem ev_ixL {ds : List PyData} {i : Int} {j : Nat} (ha : EvD K ta σ A0 (.list ds)) (hb : EvD K tb σ A0 (.int i)) (e : i = (j : Int)) (hd : ds[j]? = some d) : EvD K (tOp (rIx K) ta tb) σ A0 d :=
  ev_op ha hb fun A B u v _ f p q Q k => by
    obtain ⟨a, us, rfl, ha, pa⟩ := dp_lst p
    obtain ⟨w, hw, pw⟩ := da_at pa hd
    exact .inl ⟨a, us, i, w, rfl, dp_int q, ex_l f ha, by rw [e]; exact atI_nat hw, k w A B (.refl f) pw⟩
theorem ev_ixS {z : Str} {i : Int} {c : Nat} (ha : EvD K ta σ A0 (.str z)) (hb : EvD K tb σ A0 (.int i)) (hl : z.length ≤ 1000000) (hd : atI z.cps.toList i = some c) : EvD K (tOp (rIx K) ta tb) σ A0 (.str ⟨#[c]⟩) :=
  ev_op ha hb fun A B u v _ f p q Q k =>
    .inr (.inr ⟨z, i, c, dp_str p, dp_int q, Nat.le_trans hl (by decide), hd, k _ A B (.refl f) (.str _)⟩)
def isN : PyData → Bool
  | .none => true
  | _ => false
theorem ev_is0 {b : Bool} (ha : EvD K ta σ A0 d) (hb : EvD K tb σ A0 .none) (h : isN d = b) : EvD K (tOp rIs0 ta tb) σ A0 (.bool b) := fun A B a c Q q =>
  ha A B a c _ fun u A1 B1 s1 p1 => hb A1 B1 (a.trans s1.kn) s1.le _ fun v A2 B2 s2 p2 => ⟨dp_non p2, q _ A2 B2 (s1.trans s2) (by
    cases p1 <;> (cases h; exact .bl _))⟩
theorem ev_is1 {b : Bool} (ha : EvD K ta σ A0 d) (hb : EvD K tb σ A0 .none) (h : (!isN d) = b) : EvD K (tOp rIs1 ta tb) σ A0 (.bool b) := fun A B a c Q q =>
  ha A B a c _ fun u A1 B1 s1 p1 => hb A1 B1 (a.trans s1.kn) s1.le _ fun v A2 B2 s2 p2 => ⟨dp_non p2, q _ A2 B2 (s1.trans s2) (by
    cases p1 <;> (cases h; exact .bl _))⟩
/-- scalars by == -/
def sEq : PyData → PyData → Option Bool
  | .none, .none => some true
  | .none, .int _ => some false
  | .int _, .none => some false
  | .none, .str _ => some false
  | .str _, .none => some false
  | .int i, .int j => some (decide (i = j))
  | .str i, .str j => some (decide (i = j))
  | .bool i, .bool j => some (decide (i = j))
  | _, _ => none
theorem sEq_ok {A : Hp} {x y : PyData} {u v : V} {b : Bool} (h : sEq x y = some b) (p : Dp K A u x) (q : Dp K A v y) : scal u v = true ∧ decide (u = v) = b := by
  cases p <;> cases q <;> first
    | (cases h; exact ⟨rfl, rfl⟩)
    | (cases h; refine ⟨rfl, ?_⟩; simp)
    | (simp [sEq] at h)
theorem ev_eqS {x y : PyData} {b : Bool} (ha : EvD K ta σ A0 x) (hb : EvD K tb σ A0 y) (h : sEq x y = some b) : EvD K (tOp (rEqA K) ta tb) σ A0 (.bool b) :=
  ev_op ha hb fun A B u v _ f p q Q k => .inl (by
    obtain ⟨h1, h2⟩ := sEq_ok h p q
    exact ⟨h1, by rw [h2]; exact k _ A B (.refl f) (.bl _)⟩)
theorem ev_neS {x y : PyData} {b : Bool} (ha : EvD K ta σ A0 x) (hb : EvD K tb σ A0 y) (h : sEq x y = some b) : EvD K (tOp (rNeA K) ta tb) σ A0 (.bool (!b)) :=
  ev_op ha hb fun A B u v _ f p q Q k => .inl (by
    obtain ⟨h1, h2⟩ := sEq_ok h p q
    exact ⟨h1, by rw [h2]; exact k _ A B (.refl f) (.bl _)⟩)
theorem ev_eqD {x y : PyData} (ha : EvD K ta σ A0 x) (hb : EvD K tb σ A0 y) (h1 : SeqAt.shaped x = true) (h2 : SeqAt.shaped y = true) : EvD K (tOp (rEqA K) ta tb) σ A0 (.bool (PyData.eqv x y)) :=
  ev_op ha hb fun A B u v _ f p q Q k => .inr ⟨x, y, dp_mono f p, dp_mono f q, h1, h2, k _ A B (.refl f) (.bl _)⟩
theorem ev_neD {x y : PyData} (ha : EvD K ta σ A0 x) (hb : EvD K tb σ A0 y) (h1 : SeqAt.shaped x = true) (h2 : SeqAt.shaped y = true) : EvD K (tOp (rNeA K) ta tb) σ A0 (.bool (!PyData.eqv x y)) :=
  ev_op ha hb fun A B u v _ f p q Q k => .inr ⟨x, y, dp_mono f p, dp_mono f q, h1, h2, k _ A B (.refl f) (.bl _)⟩
/-- an int in a list or tuple of ints -/
theorem inV_ints (i : Int) : ∀ ns : List Int, inV (.int i) (ns.map V.int) = decide (i ∈ ns)
  | [] => by simp [inV]
  | n :: ns => by
    have ih := inV_ints i ns
    unfold inV at ih ⊢
    rw [List.map_cons, List.any_cons, ih]
    show ((n == i) || decide (i ∈ ns)) = decide (i ∈ n :: ns)
    by_cases h : n = i
    · subst h; simp
    · simp [h, Ne.symm h, beq_eq_false_iff_ne.mpr h]
theorem flat_ints (ns : List Int) : (ns.map V.int).all flatV = true := by
  rw [List.all_map]
  exact List.all_eq_true.mpr fun _ _ => rfl
theorem ev_inL {neg : Bool} {i : Int} {ns : List Int} (ha : EvD K ta σ A0 (.int i)) (hb : EvD K tb σ A0 (.list (ns.map .int))) : EvD K (tOp (rInA K neg) ta tb) σ A0 (.bool (if neg then !decide (i ∈ ns) else decide (i ∈ ns))) :=
  ev_op ha hb fun A B u v _ f p q Q k => .inl (by
    obtain ⟨a, us, rfl, hs, pa⟩ := dp_lst q
    have e1 := dp_int p
    have e2 := da_to_ints pa
    subst e1 e2
    refine ⟨a, _, rfl, .inl (ex_l f hs), rfl, flat_ints ns, ?_⟩
    rw [inV_ints]
    exact k _ A B (.refl f) (.bl _))
theorem ev_inT {neg : Bool} {i : Int} {ns : List Int} (ha : EvD K ta σ A0 (.int i)) (hb : EvD K tb σ A0 (.tuple (ns.map .int))) : EvD K (tOp (rInA K neg) ta tb) σ A0 (.bool (if neg then !decide (i ∈ ns) else decide (i ∈ ns))) :=
  ev_op ha hb fun A B u v _ f p q Q k => .inl (by
    obtain ⟨a, us, rfl, hs, pa⟩ := dp_tup q
    have e1 := dp_int p
    have e2 := da_to_ints pa
    subst e1 e2
    refine ⟨a, _, rfl, .inr (ex_t f hs), rfl, flat_ints ns, ?_⟩
    rw [inV_ints]
    exact k _ A B (.refl f) (.bl _))
theorem ev_inS {neg : Bool} {c : Nat} {z : Str} (ha : EvD K ta σ A0 (.str ⟨#[c]⟩)) (hb : EvD K tb σ A0 (.str z)) : EvD K (tOp (rInA K neg) ta tb) σ A0 (.bool (if neg then !decide (c ∈ z.cps.toList) else decide (c ∈ z.cps.toList))) :=
  ev_op ha hb fun A B u v _ f p q Q k => .inr (.inl ⟨c, z, dp_str p, dp_str q, k _ A B (.refl f) (.bl _)⟩)
theorem ev_inD {neg : Bool} {x : PyData} {ds : List PyData} (ha : EvD K ta σ A0 x) (hb : EvD K tb σ A0 (.tuple ds)) (h1 : SeqAt.shaped x = true) (h2 : SeqAt.shaped (.tuple ds) = true) :
    EvD K (tOp (rInA K neg) ta tb) σ A0 (.bool (if neg then !(ds.any fun z => PyData.eqv z x) else ds.any fun z => PyData.eqv z x)) :=
  ev_op ha hb fun A B u v _ f p q Q k => .inr (.inr ⟨x, ds, dp_mono f p, dp_mono f q, h1, h2, k _ A B (.refl f) (.bl _)⟩)
/-- a test of two comparisons -/
theorem ev_chain {p q : Int → Int → Bool} {i j l : Int} (ha : EvD K ta σ A0 (.int i)) (hb : EvD K tb σ A0 (.int j)) (hc : p i j = true → EvD K tc σ A0 (.int l)) : EvD K (tChain (rI0 fun i j => .bl (p i j)) (rI0 fun i j => .bl (q i j)) ta tb tc) σ A0 (.bool (p i j && q j l)) := fun A B a b Q k =>
  ha A B a b _ fun u A1 B1 s1 p1 => hb A1 B1 (a.trans s1.kn) s1.le _ fun v A2 B2 s2 p2 => ⟨i, j, dp_int p1, dp_int p2, _, rfl, by
    cases h : p i j with
    | false =>
      show Q (.bl false) B2
      exact k _ A2 B2 (s1.trans s2) (by show Dp K A2 (.bl false) (.bool (p i j && q j l)); rw [h]; exact .bl _)
    | true =>
      show tc σ B2 _
      exact hc h A2 B2 ((a.trans s1.kn).trans s2.kn) s2.le _ fun w A3 B3 s3 p3 => ⟨j, l, dp_int p2, dp_int p3, k _ A3 B3 ((s1.trans s2).trans s3) (by show Dp K A3 (.bl (q j l)) (.bool (p i j && q j l)); rw [h, Bool.true_and]; exact .bl _)⟩⟩
theorem ev_if {P : Hp → V → Prop} {b : Bool} (h : EvT K tt σ A0 b) (h1 : b = true → EvP ta σ A0 P) (h2 : b = false → EvP tb σ A0 P) : EvP (tIf tt ta tb) σ A0 P := fun A B a c Q q => h A B a c _ fun A1 B1 s1 => by
  cases b with
  | true => exact h1 rfl A1 B1 (a.trans s1.kn) s1.le Q fun v A2 B2 s2 p => q v A2 B2 (s1.trans s2) p
  | false => exact h2 rfl A1 B1 (a.trans s1.kn) s1.le Q fun v A2 B2 s2 p => q v A2 B2 (s1.trans s2) p
theorem et_test {b : Bool} (h : EvD K te σ A0 (.bool b)) : EvT K (tTest te) σ A0 b := fun A B a c Q q => h A B a c _ fun v A1 B1 s1 p => ⟨b, dp_bl p, q A1 B1 s1⟩
theorem et_B {b : Bool} (h : EvD K te σ A0 (.bool b)) : EvT K (tB te) σ A0 b := fun A B a c Q q => h A B a c _ fun v A1 B1 s1 p => ⟨b, dp_bl p, q A1 B1 s1⟩
theorem et_and {a b : Bool} (h1 : EvT K tt σ A0 a) (h2 : a = true → EvT K tu σ A0 b) : EvT K (tAnd tt tu) σ A0 (a && b) := fun A B e c Q q => h1 A B e c _ fun A1 B1 s1 => by
  cases a with
  | true => exact h2 rfl A1 B1 (e.trans s1.kn) s1.le Q fun A2 B2 s2 => q A2 B2 (s1.trans s2)
  | false => exact q A1 B1 s1
theorem et_or {a b : Bool} (h1 : EvT K tt σ A0 a) (h2 : a = false → EvT K tu σ A0 b) : EvT K (tOr tt tu) σ A0 (a || b) := fun A B e c Q q => h1 A B e c _ fun A1 B1 s1 => by
  cases a with
  | false => exact h2 rfl A1 B1 (e.trans s1.kn) s1.le Q fun A2 B2 s2 => q A2 B2 (s1.trans s2)
  | true => exact q A1 B1 s1
theorem et_not {a : Bool} (h1 : EvT K tt σ A0 a) : EvT K (tNot tt) σ A0 (!a) := fun A B e c Q q => h1 A B e c _ fun A1 B1 s1 => q A1 B1 s1
theorem et_yes : EvT K tYes σ A0 true := fun A B e c Q q => q A B (.refl c)
theorem ev_andV {a b : Bool} (h1 : EvD K ta σ A0 (.bool a)) (h2 : a = true → EvD K tb σ A0 (.bool b)) : EvD K (tAndV ta tb) σ A0 (.bool (a && b)) := fun A B e c Q q => h1 A B e c _ fun v A1 B1 s1 p => ⟨a, dp_bl p, by
  cases a with
  | true => exact h2 rfl A1 B1 (e.trans s1.kn) s1.le Q fun v A2 B2 s2 p2 => q v A2 B2 (s1.trans s2) p2
  | false => exact q _ A1 B1 s1 (.bl _)⟩
theorem ev_orV {a b : Bool} (h1 : EvD K ta σ A0 (.bool a)) (h2 : a = false → EvD K tb σ A0 (.bool b)) : EvD K (tOrV ta tb) σ A0 (.bool (a || b)) := fun A B e c Q q => h1 A B e c _ fun v A1 B1 s1 p => ⟨a, dp_bl p, by
  cases a with
  | false => exact h2 rfl A1 B1 (e.trans s1.kn) s1.le Q fun v A2 B2 s2 p2 => q v A2 B2 (s1.trans s2) p2
  | true => exact q _ A1 B1 s1 (.bl _)⟩
theorem ev_notV {a : Bool} (h1 : EvD K ta σ A0 (.bool a)) : EvD K (tNotV ta) σ A0 (.bool (!a)) := fun A B e c Q q => h1 A B e c _ fun v A1 B1 s1 p => ⟨a, dp_bl p, q _ A1 B1 s1 (.bl _)⟩
/-! slices -/
theorem eo_none : EvO K tNoPart σ A0 none := fun A B _ c Q q => q A B (.refl c)
theorem eo_some {i : Int} (h : EvD K te σ A0 (.int i)) : EvO K (tPart te) σ A0 (some i) := fun A B a c Q q => h A B a c _ fun v A1 B1 s1 p => ⟨i, dp_int p, q A1 B1 s1⟩
def cutD {α : Type} (xs : List α) (lo hi : Option Int) : List α := (xs.drop (HT.sIx xs.length 0 lo)).take (HT.sIx xs.length xs.length hi - HT.sIx xs.length 0 lo)
theorem da_cut {A : Hp} {vs : List V} {ds : List PyData} (h : DpAll K A vs ds) (lo hi : Option Int) : DpAll K A (cutV vs lo hi) (cutD ds lo hi) := by
  unfold cutV cutD
  rw [da_len h]
  exact da_take (da_drop h _) _
theorem cutD_all {α : Type} {xs : List α} {lo hi : Option Int} (h : HT.sIx xs.length 0 lo = 0 ∧ HT.sIx xs.length xs.length hi = xs.length) : cutD xs lo hi = xs := by
  unfold cutD
  rw [h.1, h.2]
  simp
theorem ev_slS {z : Str} {lo hi : Option Int} {tl th : TO} (h : EvD K te σ A0 (.str z)) (h1 : EvO K tl σ A0 lo) (h2 : EvO K th σ A0 hi) (hl : z.length ≤ 1000000) : EvD K (tSl (rSlAny K) te tl th) σ A0 (.str (cutS z lo hi)) := fun A B a c Q q =>
  h A B a c _ fun v A1 B1 s1 p => h1 A1 B1 (a.trans s1.kn) s1.le _ fun A2 B2 s2 => h2 A2 B2 ((a.trans s1.kn).trans s2.kn) s2.le _ fun A3 B3 s3 =>
    .inr (.inr ⟨z, dp_str p, Nat.le_trans hl (by decide), q _ A3 B3 ((s1.trans s2).trans s3) (.str _)⟩)
theorem ev_slT {ds : List PyData} {lo hi : Option Int} {tl th : TO} (h : EvD K te σ A0 (.tuple ds)) (h1 : EvO K tl σ A0 lo) (h2 : EvO K th σ A0 hi) : EvD K (tSl (rSlAny K) te tl th) σ A0 (.tuple (cutD ds lo hi)) := fun A B a c Q q =>
  h A B a c _ fun v A1 B1 s1 p => h1 A1 B1 (a.trans s1.kn) s1.le _ fun A2 B2 s2 => h2 A2 B2 ((a.trans s1.kn).trans s2.kn) s2.le _ fun A3 B3 s3 => by
    obtain ⟨a', us, rfl, hs, pa⟩ := dp_tup (dp_mono (s2.kn.trans s3.kn) p)
    refine .inr (.inl ⟨a', us, rfl, ex_t s3.le hs, fun z => ?_, fun z x hx => ?_⟩)
    · refine q _ A3 B3 ((s1.trans s2).trans s3) (.tup hs ?_)
      rw [da_len pa] at z
      rw [cutD_all z]
      exact pa
    · exact q _ (upd A3 x (.tup (cutV us lo hi))) _ (((s1.trans s2).trans s3).trans (.new s3.le hx)) (.tup (SqT.of upd_same) (da_mono (StpM.new (M := fun _ => False) s3.le hx).kn (da_cut pa lo hi)))
theorem ev_slL {ds : List PyData} {lo hi : Option Int} {tl th : TO} (h : EvD K te σ A0 (.list ds)) (h1 : EvO K tl σ A0 lo) (h2 : EvO K th σ A0 hi) : EvD K (tSl (rSlAny K) te tl th) σ A0 (.list (cutD ds lo hi)) := fun A B a c Q q =>
  h A B a c _ fun v A1 B1 s1 p => h1 A1 B1 (a.trans s1.kn) s1.le _ fun A2 B2 s2 => h2 A2 B2 ((a.trans s1.kn).trans s2.kn) s2.le _ fun A3 B3 s3 => by
    obtain ⟨a', us, rfl, hs, pa⟩ := dp_lst (dp_mono (s2.kn.trans s3.kn) p)
    exact .inl ⟨a', us, rfl, ex_l s3.le hs, fun x hx => q _ (upd A3 x (.lst (cutV us lo hi))) _ (((s1.trans s2).trans s3).trans (.new s3.le hx)) (.lst (SqL.of upd_same) (da_mono (StpM.new (M := fun _ => False) s3.le hx).kn (da_cut pa lo hi)))⟩
end
-- E3
section
variable {K : PySem.W.Frag} {σ : L2.St} {A0 A1 : Hp} {te ta tb tc : TE} {tt tu : TT} {d : PyData} {tA : TA}
/-! ### built-ins by their arguments' data -/
theorem ev_cb {r : List V → Hp → VK → Prop} {ds : List PyData} {P : Hp → V → Prop} (h : EvAD K tA σ A0 ds) (hr : ∀ A B vs, Ex A0 A → Ex A B → DpAll K A vs ds → ∀ Q : VK, (∀ w A' B', Stp A B A' B' → P A' w → Q w B') → r vs B Q) : EvP (tCB r tA) σ A0 P := fun A B a b Q q =>
  h A B a b _ fun vs A1 B1 s1 p1 => hr A1 B1 vs (a.trans s1.kn) s1.le p1 Q fun w A2 B2 s2 p2 => q w A2 B2 (s1.trans s2) p2
theorem da_one {A : Hp} {vs : List V} {x : PyData} (h : DpAll K A vs [x]) : ∃ v, vs = [v] ∧ Dp K A v x := by
  cases h with | cons a b => cases b; exact ⟨_, rfl, a⟩
theorem da_two {A : Hp} {vs : List V} {x y : PyData} (h : DpAll K A vs [x, y]) : ∃ v w, vs = [v, w] ∧ Dp K A v x ∧ Dp K A w y := by
  cases h with | cons a b => cases b with | cons c e => cases e; exact ⟨_, _, rfl, a, c⟩
/-- len's argument and answer -/
def dLen : PyData → Option Nat
  | .str x => if x.length ≤ 1000000 then some x.length else none
  | .list xs => some xs.length
  | .tuple xs => some xs.length
  | _ => none
theorem ev_len {n : Nat} (h : EvD K te σ A0 d) (hn : dLen d = some n) : EvD K (tCB (rLen K) (tCons te tNil)) σ A0 (.int n) :=
  ev_cb (ead_cons h ead_nil) fun A B vs _ f p Q k => by
    obtain ⟨v, e0, pv⟩ := da_one p
    subst e0
    replace p := pv
    clear pv
    refine ⟨v, n, rfl, ?_, k _ A B (.refl f) (.int _)⟩
    cases p with
    | str x =>
      replace hn : (if x.length ≤ 1000000 then some x.length else none) = some n := hn
      by_cases hx : x.length ≤ 1000000
      · rw [if_pos hx] at hn
        cases hn
        exact ⟨Nat.le_trans hx (by decide), rfl⟩
      · rw [if_neg hx] at hn
        cases hn
    | lst hs pa =>
      cases hn
      exact .inl ⟨_, ex_l f hs, (da_len pa).symm⟩
    | tup hs pa =>
      cases hn
      exact .inr ⟨_, ex_t f hs, (da_len pa).symm⟩
    | _ => cases hn
theorem ev_tupOfL {ds : List PyData} (h : EvD K te σ A0 (.list ds)) : EvD K (tCB (rTupOf K) (tCons te tNil)) σ A0 (.tuple ds) :=
  ev_cb (ead_cons h ead_nil) fun A B vs _ f p Q k => by
    obtain ⟨v, e0, pv⟩ := da_one p
    subst e0
    replace p := pv
    clear pv
    obtain ⟨a, us, rfl, hs, pa⟩ := dp_lst p
    exact ⟨a, us, rfl, .inl ⟨ex_l f hs, fun x hx => k _ (upd A x (.tup us)) _ (.new f hx) (.tup (SqT.of upd_same) (da_mono (StpM.new (M := fun _ => False) f hx).kn pa))⟩⟩
theorem ev_lstOfL {ds : List PyData} (h : EvD K te σ A0 (.list ds)) : EvD K (tCB (rLstOf K) (tCons te tNil)) σ A0 (.list ds) :=
  ev_cb (ead_cons h ead_nil) fun A B vs _ f p Q k => by
    obtain ⟨v, e0, pv⟩ := da_one p
    subst e0
    replace p := pv
    clear pv
    obtain ⟨a, us, rfl, hs, pa⟩ := dp_lst p
    exact ⟨a, us, rfl, .inl (ex_l f hs), fun x hx => k _ (upd A x (.lst us)) _ (.new f hx) (.lst (SqL.of upd_same) (da_mono (StpM.new (M := fun _ => False) f hx).kn pa))⟩
theorem ev_min2 {i j : Int} (h1 : EvD K ta σ A0 (.int i)) (h2 : EvD K tb σ A0 (.int j)) : EvD K (tCB rMin2 (tCons ta (tCons tb tNil))) σ A0 (.int (if j < i then j else i)) :=
  ev_cb (ead_cons h1 (ead_cons h2 ead_nil)) fun A B vs _ f p Q k => by
    obtain ⟨v, w, e0, pv, q⟩ := da_two p
    subst e0
    replace p := pv
    clear pv
    rw [dp_int p, dp_int q]
    exact ⟨i, j, rfl, k _ A B (.refl f) (.int _)⟩
theorem ev_min1 {ns : List Int} {P : Int → Prop} (h : EvD K te σ A0 (.list (ns.map .int))) (h0 : 0 < ns.length) (hP : ∀ m, m ∈ ns → (∀ y, y ∈ ns → m ≤ y) → P m) : EvP (tCB (rMin K) (tCons te tNil)) σ A0 fun A v => ∃ m, v = .int m ∧ P m :=
  ev_cb (ead_cons h ead_nil) fun A B vs _ f p Q k => by
    obtain ⟨v, e0, pv⟩ := da_one p
    subst e0
    replace p := pv
    clear pv
    obtain ⟨a, us, rfl, hs, pa⟩ := dp_lst p
    have e := da_to_ints pa
    subst e
    exact ⟨a, ns, rfl, ex_l f hs, h0, fun m hm hle => k _ A B (.refl f) ⟨m, rfl, hP m hm hle⟩⟩
theorem ev_abs {i : Int} (h : EvD K te σ A0 (.int i)) : EvD K (tCB rAbs (tCons te tNil)) σ A0 (.int (if i < 0 then -i else i)) :=
  ev_cb (ead_cons h ead_nil) fun A B vs _ f p Q k => by
    obtain ⟨v, e0, pv⟩ := da_one p
    subst e0
    replace p := pv
    clear pv
    rw [dp_int p]
    exact ⟨i, rfl, k _ A B (.refl f) (.int _)⟩
theorem ev_int {i : Int} (h : EvD K te σ A0 (.int i)) : EvD K (tCB rIntOf (tCons te tNil)) σ A0 (.int i) :=
  ev_cb (ead_cons h ead_nil) fun A B vs _ f p Q k => by
    obtain ⟨v, e0, pv⟩ := da_one p
    subst e0
    replace p := pv
    clear pv
    rw [dp_int p]
    exact .inl ⟨i, rfl, k _ A B (.refl f) (.int _)⟩
theorem ev_all {bs : List Bool} (h : EvD K te σ A0 (.list (bs.map .bool))) : EvD K (tCB (rAll K) (tCons te tNil)) σ A0 (.bool (bs.all id)) :=
  ev_cb (ead_cons h ead_nil) fun A B vs _ f p Q k => by
    obtain ⟨v, e0, pv⟩ := da_one p
    subst e0
    replace p := pv
    clear pv
    obtain ⟨a, us, rfl, hs, pa⟩ := dp_lst p
    have e := da_to_bls pa
    subst e
    exact ⟨a, bs, rfl, ex_l f hs, k _ A B (.refl f) (.bl _)⟩
theorem ev_any {bs : List Bool} (h : EvD K te σ A0 (.list (bs.map .bool))) : EvD K (tCB (rAny K) (tCons te tNil)) σ A0 (.bool (bs.any id)) :=
  ev_cb (ead_cons h ead_nil) fun A B vs _ f p Q k => by
    obtain ⟨v, e0, pv⟩ := da_one p
    subst e0
    replace p := pv
    clear pv
    obtain ⟨a, us, rfl, hs, pa⟩ := dp_lst p
    have e := da_to_bls pa
    subst e
    exact ⟨a, bs, rfl, ex_l f hs, k _ A B (.refl f) (.bl _)⟩
theorem rgV_nat (n : Nat) : rgV 0 (n : Int) = (List.range n).map fun i => V.int (i : Nat) := by
  unfold rgV
  have e : ((n : Int) - 0).toNat = n := by omega
  rw [e]
  refine List.map_congr_left fun i _ => ?_
  rw [Int.zero_add]
theorem da_range {A : Hp} (n : Nat) : DpAll K A ((List.range n).map fun i => V.int (i : Nat)) ((List.range n).map fun i => PyData.int (i : Nat)) := da_map (fun i => .int _) _
theorem ev_tupRg {n : Nat} (h : EvD K te σ A0 (.int n)) (hn : n ≤ 1000000) : EvD K (tTupRg (tRg1 te)) σ A0 (.tuple ((List.range n).map fun i => .int (i : Nat))) := fun A B a b Q q =>
  h A B a b _ fun v A1 B1 s1 p => ⟨n, dp_int p, .of_le (by omega) (by omega) (by omega) (by omega), fun x hx => q _ (upd A1 x (.tup (rgV 0 n))) _ (s1.trans (.new s1.le hx)) (by
    rw [rgV_nat]
    exact .tup (SqT.of upd_same) (da_range n))⟩
theorem ev_lstRg {n : Nat} (h : EvD K te σ A0 (.int n)) (hn : n ≤ 1000000) : EvD K (tLstRg (tRg1 te)) σ A0 (.list ((List.range n).map fun i => .int (i : Nat))) := fun A B a b Q q =>
  h A B a b _ fun v A1 B1 s1 p => ⟨n, dp_int p, .of_le (by omega) (by omega) (by omega) (by omega), fun x hx => q _ (upd A1 x (.lst (rgV 0 n))) _ (s1.trans (.new s1.le hx)) (by
    rw [rgV_nat]
    exact .lst (SqL.of upd_same) (da_range n))⟩
/-! ### calls -/
theorem ev_call {sp : Sp} {R : Hp → List V → Prop} {P : Hp → V → Prop} (h : EvA tA σ A0 R) (hs : ∀ A B vs, Ex A0 A → Ex A B → R A vs → ∀ Q : VK, (∀ v A' B', Stp A B A' B' → P A' v → Q v B') → sp vs B Q E0) : EvP (tCall sp [] E0 tA) σ A0 P := fun A B a b Q q =>
  h A B a b _ fun vs A1 B1 s1 p1 => by
    rw [List.append_nil]
    exact hs A1 B1 vs (a.trans s1.kn) s1.le p1 Q fun v A2 B2 s2 p2 => q v A2 B2 (s1.trans s2) p2
/-- a method of an instance that is known -/
theorem ev_meth {C p dx : Addr} {m : Str} {sp : Sp} {fs : List (Str × V)} {R : Hp → List V → Prop} {P : Hp → V → Prop} (ho : EvP te σ A0 fun _ v => v = .ref p) (hi : A0 p = some (.ins C dx fs)) (hm : fs.lookup m = none) (h : EvA tA σ A0 R)
    (hs : ∀ A B vs, Ex A0 A → Ex A B → R A vs → ∀ Q : VK, (∀ v A' B', Stp A B A' B' → P A' v → Q v B') → sp (.ref p :: vs) B Q E0) : EvP (tMeth C m sp [] E0 te tA) σ A0 P := fun A B a b Q q =>
  ho A B a b _ fun v A1 B1 s1 e => by
    subst e
    refine ⟨p, dx, fs, rfl, s1.le _ _ ((a.trans s1.kn) _ _ hi), hm, ?_⟩
    refine h A1 B1 (a.trans s1.kn) s1.le _ fun vs A2 B2 s2 p2 => ?_
    rw [List.append_nil]
    exact hs A2 B2 vs ((a.trans s1.kn).trans s2.kn) s2.le p2 Q fun v A3 B3 s3 p3 => q v A3 B3 ((s1.trans s2).trans s3) p3
/-- an attribute of an instance that is known -/
theorem ev_fld {C p dx : Addr} {f : Str} {fs : List (Str × V)} {v : V} {P : Hp → V → Prop} (ho : EvP te σ A0 fun _ v => v = .ref p) (hi : A0 p = some (.ins C dx fs)) (hC : Cls K C) (hn : NoAttr K C f) (hf : fs.lookup f = some v) (hp : ∀ A, Ex A0 A → P A v) : EvP (tFld K te f) σ A0 P := fun A B a b Q q =>
  ho A B a b _ fun u A1 B1 s1 e => by
    subst e
    exact ⟨p, C, dx, fs, v, rfl, s1.le _ _ ((a.trans s1.kn) _ _ hi), hC, hn, hf, q v A1 B1 s1 (hp A1 (a.trans s1.kn))⟩
/-! ### text methods -/
theorem ev_join {ys : List Str} {x : Str} (ho : EvD K ta σ A0 (.str x)) (h : EvD K te σ A0 (.list (ys.map .str))) (hl : (ys.map (·.length)).sum + ys.length * x.length ≤ 1000000) : EvD K (tM1 (rJoin K) ta te) σ A0 (.str (Txt.join x ys)) := fun A B a b Q q =>
  ho A B a b _ fun u A1 B1 s1 p1 => ⟨⟨x, dp_str p1⟩, h A1 B1 (a.trans s1.kn) s1.le _ fun v A2 B2 s2 p2 => by
    obtain ⟨a', us, rfl, hs, pa⟩ := dp_lst p2
    have e := da_to_strs pa
    subst e
    exact ⟨x, a', ys, dp_str p1, rfl, .inl (ex_l s2.le hs), Nat.le_trans hl (by decide), q _ A2 B2 (s1.trans s2) (.str _)⟩⟩
/-! ### statements -/
variable {D : Ends}
theorem st_asg {i : Nat} {P : Hp → V → Prop} {A B : Hp} (h : EvP te σ A P) (hx : Ex A B) (k : ∀ v A' B', Stp A B A' B' → P A' v → D.nx (σ.set i (some v)) B') : tAsg te (gName i) D σ B :=
  h A B (Ex.refl _) hx _ fun v A1 B1 s p => k v A1 B1 s p
theorem st_ret {P : Hp → V → Prop} {A B : Hp} (h : EvP te σ A P) (hx : Ex A B) (k : ∀ v A' B', Stp A B A' B' → P A' v → D.rt v B') : tRet te D σ B := h A B (Ex.refl _) hx _ k
theorem st_retD {A0 B0 A B : Hp} (h : EvD K te σ A d) (S : Stp A0 B0 A B) (k : Ret K A0 B0 D.rt d) : tRet te D σ B := h A B (Ex.refl _) S.le _ fun v A1 B1 s p => k v A1 B1 (S.trans s) p
theorem st_if {b : Bool} {A B : Hp} {tu tw : TS} (h : EvT K tt σ A b) (hx : Ex A B) (h1 : b = true → ∀ A' B', Stp A B A' B' → tu D σ B') (h2 : b = false → ∀ A' B', Stp A B A' B' → tw D σ B') : tIfS tt tu tw D σ B :=
  h A B (Ex.refl _) hx _ fun A1 B1 s => by
    cases b with
    | true => exact h1 rfl A1 B1 s
    | false => exact h2 rfl A1 B1 s
/-- a, b, .. = e: the items of a tuple -/
theorem st_unp {A B : Hp} {n : Nat} {gs : TGs} {ds : List PyData} (h : EvD K te σ A (.tuple ds)) (hx : Ex A B) (hn : ds.length = n) (k : ∀ vs A' B', Stp A B A' B' → DpAll K A' vs ds → gs vs σ B' D.nx) : tAsg te (gTup K n gs) D σ B :=
  h A B (Ex.refl _) hx _ fun v A1 B1 s p => by
    obtain ⟨a, us, rfl, hs, pa⟩ := dp_tup p
    exact ⟨a, us, rfl, ex_t s.le hs, (da_len pa).trans hn, k us A1 B1 s pa⟩
end
-- E4
/-! ### what is walked, by its items' data -/
def Src (K : PySem.W.Frag) (wi : TI) (σ : L2.St) (A0 : Hp) (ys : List PyData) : Prop := ∀ A B, Ex A0 A → Ex A B → ∀ R : It → Hp → Prop,
  (∀ J A' B' G Y, Stp A B A' B' → Walk J ys.length G Y → (∀ H, Ex A' H → G H) → (∀ i H x H' A2, i < ys.length → Y i H x H' → Ex A' A2 → Ex A2 H → ∃ A3, Stp A2 H A3 H' ∧ ∃ d, ys[i]? = some d ∧ Dp K A3 x d) → R J B') → wi σ B R
section
variable {K : PySem.W.Frag} {σ : L2.St} {A0 : Hp} {te ta tb : TE} {d : PyData} {tA : TA}
theorem src_list {ds : List PyData} (h : EvD K te σ A0 (.list ds)) : Src K (iList K te) σ A0 ds := fun A B a b R k => h A B a b _ fun v A1 B1 s p => by
  obtain ⟨l, us, rfl, hs, pa⟩ := dp_lst p
  have hl := da_len pa
  refine ⟨l, rfl, ⟨us, ex_l s.le hs⟩, k _ A1 B1 (fun H => SqL K H l us) (YAt us) s (by rw [← hl]; exact walk_list) (fun H e => ex_l e hs) fun i H x H' A2 hi y e1 e2 => ?_⟩
  obtain ⟨e, y⟩ := y
  subst e
  exact ⟨A2, .refl e2, ds[i], List.getElem?_eq_getElem hi, dp_mono e1 ((dpAll_get pa).2 i _ _ y (List.getElem?_eq_getElem hi))⟩
theorem src_tup {ds : List PyData} (h : EvD K te σ A0 (.tuple ds)) : Src K (iTup K te) σ A0 ds := fun A B a b R k => h A B a b _ fun v A1 B1 s p => by
  obtain ⟨l, us, rfl, hs, pa⟩ := dp_tup p
  have hl := da_len pa
  refine ⟨l, rfl, ⟨us, ex_t s.le hs⟩, k _ A1 B1 (fun H => SqT K H l us) (YAt us) s (by rw [← hl]; exact walk_tup) (fun H e => ex_t e hs) fun i H x H' A2 hi y e1 e2 => ?_⟩
  obtain ⟨e, y⟩ := y
  subst e
  exact ⟨A2, .refl e2, ds[i], List.getElem?_eq_getElem hi, dp_mono e1 ((dpAll_get pa).2 i _ _ y (List.getElem?_eq_getElem hi))⟩
theorem src_str {z : Str} (h : EvD K te σ A0 (.str z)) : Src K (iStr te) σ A0 (z.cps.toList.map fun c => .str ⟨#[c]⟩) := fun A B a b R k => h A B a b _ fun v A1 B1 s p => by
  have e := dp_str p
  subst e
  refine ⟨z, rfl, k _ A1 B1 (fun _ => True) _ s (by rw [List.length_map, Array.length_toList]; exact walk_str) (fun _ _ => trivial) fun i H x H' A2 hi y e1 e2 => ?_⟩
  obtain ⟨e, c, hc, e3⟩ := y
  subst e e3
  refine ⟨A2, .refl e2, _, ?_, .str _⟩
  rw [List.getElem?_map, Array.getElem?_toList, hc]
  rfl
theorem src_range1 {n : Nat} (h : EvD K te σ A0 (.int n)) (hn : n ≤ 1000000) : Src K (iRng1 (tCons te tNil)) σ A0 ((List.range n).map fun i => .int (i : Nat)) := fun A B a b R k => h A B a b _ fun v A1 B1 s p => by
  have e := dp_int p
  subst e
  refine ⟨n, rfl, by omega, by omega, k _ A1 B1 (fun _ => True) _ s (by rw [List.length_map, List.length_range]; exact walk_range) (fun _ _ => trivial) fun i H x H' A2 hi y e1 e2 => ?_⟩
  obtain ⟨e, e3⟩ := y
  subst e e3
  rw [List.length_map, List.length_range] at hi
  refine ⟨A2, .refl e2, .int ((0 : Int) + (i : Nat)), ?_, .int _⟩
  rw [List.getElem?_map, List.getElem?_range (by omega)]
  show some (PyData.int (i : Nat)) = _
  rw [Int.zero_add]
theorem src_range2 {m n : Nat} (h : EvD K ta σ A0 (.int m)) (h2 : EvD K tb σ A0 (.int n)) (hm : m ≤ 1000000) (hn : n ≤ 1000000) : Src K (iRng2 (tCons ta (tCons tb tNil))) σ A0 ((List.range (n - m)).map fun i => .int ((m : Int) + (i : Nat))) := fun A B a b R k => h A B a b _ fun v A1 B1 s p => h2 A1 B1 (a.trans s.kn) s.le _ fun v2 A2 B2 s2 p2 => by
  have e := dp_int p
  have e' := dp_int p2
  subst e e'
  refine ⟨m, n, rfl, ⟨by omega, by omega, by omega, by omega⟩, k _ A2 B2 (fun _ => True) _ (s.trans s2) (by
    rw [List.length_map, List.length_range]
    have e : ((n : Int) - (m : Int)).toNat = n - m := by omega
    rw [e]
    exact walk_range) (fun _ _ => trivial) fun i H x H' A3 hi y e1 e2 => ?_⟩
  obtain ⟨e, e3⟩ := y
  subst e e3
  rw [List.length_map, List.length_range] at hi
  refine ⟨A3, .refl e2, .int ((m : Int) + (i : Nat)), ?_, .int _⟩
  rw [List.getElem?_map, List.getElem?_range (by omega)]
  rfl
theorem src_enumT {ds : List PyData} (h : EvD K te σ A0 (.tuple ds)) : Src K (iEnumT K (tCons te tNil)) σ A0 (ds.zipIdx.map fun p => .tuple [.int (p.2 : Nat), p.1]) := fun A B a b R k => h A B a b _ fun v A1 B1 s p => by
  obtain ⟨l, us, rfl, hs, pa⟩ := dp_tup p
  have hl := da_len pa
  refine ⟨l, us, rfl, ex_t s.le hs, k _ A1 B1 (fun H => SqT K H l us) _ s (by rw [List.length_map, List.length_zipIdx, ← hl]; exact walk_enumT) (fun H e => ex_t e hs) fun i H x H' A2 hi y e1 e2 => ?_⟩
  obtain ⟨T, u, w, e3, hT, e4, e5, e6⟩ := y
  subst e3 e4
  rw [List.length_map, List.length_zipIdx] at hi
  cases e5
  have hw : Dp K A2 w ds[i] := dp_mono e1 ((dpAll_get pa).2 i _ _ e6 (List.getElem?_eq_getElem hi))
  refine ⟨upd A2 T (.tup [.int (i : Nat), w]), .new e2 hT, .tuple [.int (i : Nat), ds[i]], ?_, .tup (SqT.of upd_same) (da_mono (StpM.new (M := fun _ => False) e2 hT).kn (.cons (.int _) (.cons hw .nil)))⟩
  rw [List.getElem?_map, List.getElem?_zipIdx, List.getElem?_eq_getElem hi]
  show some (PyData.tuple [.int ((0 + i : Nat) : Int), ds[i]]) = _
  rw [Nat.zero_add]
/-! ### targets -/
/-- the target stores x: behind it the slots are σ2 -/
def GEv (g : TG) (σ : L2.St) (B : Hp) (x : V) (σ2 : L2.St) : Prop := ∀ Q : L2.St → Hp → Prop, Q σ2 B → g x σ B Q
theorem g_name {j : Nat} {B : Hp} {x : V} : GEv (gName j) σ B x (σ.set j (some x)) := fun _ q => q
theorem g_two {i j : Nat} {A B : Hp} {x : V} {d1 d2 : PyData} (h : Dp K A x (.tuple [d1, d2])) (e : Ex A B) : ∃ u v, Dp K A u d1 ∧ Dp K A v d2 ∧ GEv (gTup K 2 (gCons (gName i) (gCons (gName j) gNil))) σ B x ((σ.set i (some u)).set j (some v)) := by
  obtain ⟨a, us, rfl, hs, pa⟩ := dp_tup h
  obtain ⟨u, v, rfl, p, q⟩ := da_two pa
  exact ⟨u, v, p, q, fun Q k => ⟨a, [u, v], rfl, ex_t e hs, rfl, u, [v], rfl, v, [], rfl, rfl, k⟩⟩
/-! ### comprehensions -/
theorem ev_lc {α : Type} {wi : TI} {g : TG} {tt : TT} {vs : List Nat} (xs : List α) (enc : α → PyData) (f : α → Bool) (q : α → PyData) (hs : Src K wi σ A0 (xs.map enc)) (hl : xs.length ≤ 1000000)
    (ht : ∀ a ∈ xs, ∀ x A B, Ex A0 A → Ex A B → Dp K A x (enc a) → ∃ σ2, GEv g (wipe σ vs) B x σ2 ∧ wipe σ2 vs = wipe σ vs ∧ EvT K tt σ2 A (f a) ∧ (f a = true → EvD K te σ2 A (q a))) :
    EvD K (tLc wi g tt te vs) σ A0 (.list ((xs.filter f).map q)) := fun A B a b Q k => hs A B a b _ fun J A1 B1 G Y s W hG hY => by
  intro Dl hD
  rw [List.length_map] at W hY
  let Pv : Nat → Hp → Prop := fun i H => ∃ A2, StpM (fun _ => False) A1 B1 A2 H ∧ A2 Dl = none ∧ ∃ us, H Dl = some (.lst us) ∧ DpAll K A2 us (((xs.take i).filter f).map q)
  have hD0 : A1 Dl = none := ex_none s.le hD
  refine lc_it W Pv ⟨A1, .newU s.le hD, hD0, [], upd_same, .nil⟩ (fun i H _ ⟨A2, S, _⟩ => hG H S.ex0) (fun i x H H' hi ⟨A2, S, n2, us, hu, pu⟩ y => ?_) (fun H ⟨A2, S, n2, us, hu, pu⟩ => ?_)
  · obtain ⟨A3, s3, d, hd, px⟩ := hY i H x H' A2 hi y S.kn S.le
    rw [List.getElem?_map, List.getElem?_eq_getElem hi] at hd
    cases hd
    have S3 := S.go s3
    have n3 : A3 Dl = none := s3.sp Dl (by rw [hu]; simp) n2
    have h3 : H' Dl = some (.lst us) := s3.al _ _ (fun z => z) hu
    obtain ⟨σ2, hg, hw, hT, hE⟩ := ht xs[i] (List.getElem_mem hi) x A3 H' ((a.trans s.kn).trans S3.kn) S3.le px
    refine hg _ ⟨hw, ?_⟩
    have etk : xs.take (i + 1) = xs.take i ++ [xs[i]] := by rw [List.take_add_one, List.getElem?_eq_getElem hi]; rfl
    have hlen : us.length ≤ i := by
      rw [da_len pu, List.length_map]
      have h1 := List.length_filter_le f (xs.take i)
      rw [List.length_take] at h1
      omega
    refine hT A3 H' (Ex.refl _) S3.le _ fun A4 B4 s4 => ?_
    have S4 := S3.go s4
    have n4 : A4 Dl = none := s4.sp Dl (by rw [h3]; simp) n3
    have h4 : B4 Dl = some (.lst us) := s4.al _ _ (fun z => z) h3
    cases hf : f xs[i] with
    | false =>
      refine iteF ⟨A4, S4, n4, us, h4, ?_⟩
      have e : ((xs.take (i + 1)).filter f) = (xs.take i).filter f := by rw [etk, List.filter_append]; simp [hf]
      rw [e]
      exact da_mono ((s3.kn).trans s4.kn) pu
    | true =>
      refine iteT (hE hf A4 B4 s4.kn s4.le _ fun v A5 B5 s5 p5 => ?_)
      have S5 := S4.go s5
      have n5 : A5 Dl = none := s5.sp Dl (by rw [h4]; simp) n4
      have h5 : B5 Dl = some (.lst us) := s5.al _ _ (fun z => z) h4
      refine ⟨us, h5, Nat.lt_of_le_of_lt hlen (Nat.lt_of_lt_of_le (Nat.lt_of_lt_of_le hi hl) (by decide)), A5, S5.mut (.inl hD) n5, n5, us ++ [v], upd_same, ?_⟩
      have e : ((xs.take (i + 1)).filter f) = (xs.take i).filter f ++ [xs[i]] := by rw [etk, List.filter_append]; simp [hf]
      rw [e, List.map_append]
      exact da_app (da_mono (((s3.kn).trans s4.kn).trans s5.kn) pu) (.cons p5 .nil)
  · rw [List.take_length] at pu
    have S' := S.frz hD n2 hu
    exact k _ _ H (s.trans S') (.lst (SqL.of upd_same) (da_mono (Ex.new n2) pu))
/-- without a test -/
theorem ev_lc0 {α : Type} {wi : TI} {g : TG} {vs : List Nat} (xs : List α) (enc : α → PyData) (q : α → PyData) (hs : Src K wi σ A0 (xs.map enc)) (hl : xs.length ≤ 1000000)
    (ht : ∀ a ∈ xs, ∀ x A B, Ex A0 A → Ex A B → Dp K A x (enc a) → ∃ σ2, GEv g (wipe σ vs) B x σ2 ∧ wipe σ2 vs = wipe σ vs ∧ EvD K te σ2 A (q a)) :
    EvD K (tLc wi g tYes te vs) σ A0 (.list (xs.map q)) := by
  have h := ev_lc (te := te) (tt := tYes) xs enc (fun _ => true) q hs hl fun a ha x A B e f p => by
    obtain ⟨σ2, h1, h2, h3⟩ := ht a ha x A B e f p
    exact ⟨σ2, h1, h2, fun A B a c Q q => q A B (.refl c), fun _ => h3⟩
  rw [List.filter_eq_self.mpr fun _ _ => rfl] at h
  exact h
/-- a comprehension in a lock that changes nothing of what is told -/
theorem g_lc {wi : TI} {j : Nat} {x : V} {B : Hp} {vs : List Nat} (hv : ∀ y, wipe ((wipe σ vs).set j (some y)) vs = wipe σ vs) : GEv (gName j) (wipe σ vs) B x ((wipe σ vs).set j (some x)) ∧ wipe ((wipe σ vs).set j (some x)) vs = wipe σ vs := ⟨g_name, hv x⟩
end
/-! ### loops -/
section
variable {K : PySem.W.Frag} {σ : L2.St} {te ta tb : TE} {d : PyData} {D : Ends}
theorem st_for {α : Type} {xs : List α} {enc : α → PyData} {A0 B0 : Hp} {wi : TI} {g : TG} {tb : TS} (hs : Src K wi σ A0 (xs.map enc)) (hx : Ex A0 B0)
    (k : ∀ A1 B1, Stp A0 B0 A1 B1 → ∃ Pv : Nat → L2.St → Hp → Hp → Prop, Pv 0 σ A1 B1 ∧
      (∀ i a x σ' A B A2 B2, xs[i]? = some a → Ex A1 A → Ex A B → Pv i σ' A B → Stp A B A2 B2 → Dp K A2 x (enc a) →
        g x σ' B2 fun σ2 B3 => tb { D with nx := fun σ3 B4 => ∃ A4, Ex A1 A4 ∧ Ex A4 B4 ∧ Pv (i + 1) σ3 A4 B4, ct := fun σ3 B4 => ∃ A4, Ex A1 A4 ∧ Ex A4 B4 ∧ Pv (i + 1) σ3 A4 B4, bk := D.nx } σ2 B3) ∧
      (∀ σ' A B, Ex A1 A → Ex A B → Pv xs.length σ' A B → D.nx σ' B)) : tFor wi g tb D σ B0 := hs A0 B0 (Ex.refl _) hx _ fun J A1 B1 G Y s W hG hY => by
  obtain ⟨Pv, h0, ht, hd⟩ := k A1 B1 s
  rw [List.length_map] at W hY
  refine for_it W (fun i σ' B => ∃ A, Ex A1 A ∧ Ex A B ∧ Pv i σ' A B) ⟨A1, Ex.refl _, s.le, h0⟩ (fun i σ' H _ ⟨A, a, b, _⟩ => hG H (a.trans b)) (fun i x σ' H H' hi ⟨A, a, b, p⟩ y => ?_) (fun σ' H ⟨A, a, b, p⟩ => hd σ' A H a b p)
  obtain ⟨A3, s3, d, hd, px⟩ := hY i H x H' A hi y a b
  rw [List.getElem?_map, List.getElem?_eq_getElem hi] at hd
  cases hd
  exact ht i xs[i] x σ' A H A3 H' (List.getElem?_eq_getElem hi) a b p s3 px
/-- a loop that looks for something and stores nothing that is read later: each item is passed, or the def hands back -/
theorem st_while (W : Nat → L2.St → Hp → Hp → Prop) (m0 : Nat) {A0 B0 : Hp} {tt : TT} {tb : TS} (h0 : W m0 σ A0 B0)
    (hs : ∀ m σ' A B, W m σ' A B → ∃ b, EvT K tt σ' A b ∧ Ex A B ∧ (b = true → ∀ A1 B1, Stp A B A1 B1 → tb { D with nx := fun σ2 B2 => ∃ A2 m', m' < m ∧ W m' σ2 A2 B2, ct := fun σ2 B2 => ∃ A2 m', m' < m ∧ W m' σ2 A2 B2, bk := D.nx } σ' B1) ∧ (b = false → ∀ A1 B1, Stp A B A1 B1 → D.nx σ' B1)) : tWhile tt tb D σ B0 :=
  ⟨fun m σ' B => ∃ A, W m σ' A B, ⟨m0, A0, h0⟩, fun m σ' B ⟨A, hw⟩ => by
    obtain ⟨b, hb, hx, h1, h2⟩ := hs m σ' A B hw
    refine hb A B (Ex.refl _) hx _ fun A1 B1 s => ?_
    cases b with
    | true => exact ⟨fun σ2 B2 => ∃ A2 m', m' < m ∧ W m' σ2 A2 B2, fun σ2 B2 ⟨A2, m', lt, w⟩ => ⟨m', lt, A2, w⟩, h1 rfl A1 B1 s⟩
    | false => exact h2 rfl A1 B1 s⟩
end
-- E5
/-- the whole way from a def's start -/
structure Tot (M : Addr → Prop) (A0 B0 A B : Hp) : Prop where
  s : StpM M A0 B0 A B
section
variable {M : Addr → Prop} {A0 B0 A B A' B' : Hp}
theorem Tot.refl (h : Ex A B) : Tot M A B A B := ⟨.refl h⟩
theorem Tot.go (S : Tot M A0 B0 A B) (t : Stp A B A' B') : Tot M A0 B0 A' B' := ⟨S.s.go t⟩
theorem Tot.goM (S : Tot M A0 B0 A B) (t : StpM M A B A' B') : Tot M A0 B0 A' B' := ⟨S.s.trans t⟩
theorem Tot.le (S : Tot M A0 B0 A B) : Ex A B := S.s.le
/-- a list of this body's own, not known yet -/
structure Own (A0 B0 A B : Hp) (l : Addr) (o : HO) : Prop where
  at_ : B l = some o
  new : B0 l = none
  unk : A l = none
theorem Own.go {l : Addr} {o : HO} (h : Own A0 B0 A B l o) (t : Stp A B A' B') : Own A0 B0 A' B' l o := ⟨t.al _ _ (fun z => z) h.at_, h.new, t.sp _ (by rw [h.at_]; simp) h.unk⟩
theorem Own.goM {l : Addr} {o : HO} (h : Own A0 B0 A B l o) (t : StpM M A B A' B') (m : ¬ M l) : Own A0 B0 A' B' l o := ⟨t.al _ _ m h.at_, h.new, t.sp _ (by rw [h.at_]; simp) h.unk⟩
theorem Own.put {l : Addr} {o o' : HO} (h : Own A0 B0 A B l o) : Own A0 B0 A (upd B l o') l o' := ⟨upd_same, h.new, h.unk⟩
theorem Own.other {l k : Addr} {o o' : HO} (h : Own A0 B0 A B l o) (n : l ≠ k) : Own A0 B0 A (upd B k o') l o := ⟨by rw [upd_ne n]; exact h.at_, h.new, h.unk⟩
theorem Tot.mut {l : Addr} {o o' : HO} (S : Tot M A0 B0 A B) (h : Own A0 B0 A B l o) : Tot M A0 B0 A (upd B l o') := ⟨S.s.mut (.inl h.new) h.unk⟩
theorem Tot.newU {l : Addr} {o : HO} (S : Tot M A0 B0 A B) (n : B l = none) : Tot M A0 B0 A (upd B l o) ∧ Own A0 B0 A (upd B l o) l o := by
  have n0 : B0 l = none := by
    cases q : B0 l with
    | none => rfl
    | some u => exact absurd n (S.s.th l (by rw [q]; simp))
  exact ⟨⟨S.s.trans (StpM.newU S.le n)⟩, upd_same, n0, ex_none S.le n⟩
/-- from now on it is known -/
theorem Tot.frz {l : Addr} {o : HO} (S : Tot M A0 B0 A B) (h : Own A0 B0 A B l o) : Tot M A0 B0 (upd A l o) B ∧ Ex A (upd A l o) := ⟨⟨S.s.frz h.new h.unk h.at_⟩, Ex.new h.unk⟩
theorem Own.frzO {l k : Addr} {o o' : HO} (h : Own A0 B0 A B l o) (n : l ≠ k) : Own A0 B0 (upd A k o') B l o := ⟨h.at_, h.new, by rw [upd_ne n]; exact h.unk⟩
theorem Own.ne {l k : Addr} {o : HO} (h : Own A0 B0 A B l o) (n : B k = none) : l ≠ k := ne_of_none h.at_ n
end
section
variable {K : PySem.W.Frag} {σ : L2.St} {te ta tb : TE} {d : PyData} {D : Ends} {M : Addr → Prop} {A0 B0 A B : Hp}
/-- x = [..], a list that will change -/
theorem st_new {i : Nat} {tA : TA} {P : Hp → List V → Prop} (h : EvA tA σ A P) (S : Tot M A0 B0 A B) (hl : ∀ A vs, P A vs → vs.length ≤ 1000) (k : ∀ l vs A' B', Stp A B A' B' → P A' vs → Tot M A0 B0 A' (upd B' l (.lst vs)) → Own A0 B0 A' (upd B' l (.lst vs)) l (.lst vs) → B' l = none → D.nx (σ.set i (some (.ref l))) (upd B' l (.lst vs))) : tAsg (tLst tA) (gName i) D σ B :=
  h A B (Ex.refl _) S.le _ fun vs A1 B1 s p => ⟨Nat.le_trans (hl A1 vs p) (by decide), fun l hn => by
    obtain ⟨S1, O1⟩ := (S.go s).newU (o := .lst vs) hn
    exact k l vs A1 B1 s p S1 O1 hn⟩
/-- x = [] -/
theorem st_new0 {i : Nat} (S : Tot M A0 B0 A B) (k : ∀ l, Tot M A0 B0 A (upd B l (.lst [])) → Own A0 B0 A (upd B l (.lst [])) l (.lst []) → B l = none → D.nx (σ.set i (some (.ref l))) (upd B l (.lst []))) : tAsg (tLst tNil) (gName i) D σ B :=
  ⟨Nat.zero_le _, fun l hn => by
    obtain ⟨S1, O1⟩ := S.newU (o := .lst []) hn
    exact k l S1 O1 hn⟩
/-- x.append(e) -/
theorem st_app {l : Addr} {xs : List V} {P : Hp → V → Prop} (ho : ∀ A, EvP ta σ A fun _ v => v = .ref l) (h : EvP te σ A P) (S : Tot M A0 B0 A B) (O : Own A0 B0 A B l (.lst xs)) (hl : xs.length ≤ 1000000) (k : ∀ v A' B', Stp A B A' B' → P A' v → Tot M A0 B0 A' (upd B' l (.lst (xs ++ [v]))) → Own A0 B0 A' (upd B' l (.lst (xs ++ [v]))) l (.lst (xs ++ [v])) → D.nx σ (upd B' l (.lst (xs ++ [v])))) :
    tDrop (tBM K "list" rAppend ta (tCons te tNil)) D σ B := ho A A B (Ex.refl _) S.le _ fun v A1 B1 s1 e => by
  subst e
  have O1 := O.go s1
  refine ⟨.inl ⟨rfl, xs, SqL.of O1.at_⟩, h A1 B1 s1.kn s1.le _ fun w A2 B2 s2 p => ?_⟩
  have O2 := O1.go s2
  exact ⟨l, xs, w, rfl, rfl, O2.at_, Nat.lt_of_le_of_lt hl (by decide), k w A2 B2 (s1.trans s2) p (((S.go s1).go s2).mut O2) O2.put⟩
theorem ev_ref {i : Nat} {l : Addr} (h : σ[i]? = some (some (.ref l))) : ∀ A, EvP (tVar i) σ A fun _ v => v = .ref l := fun A => ev_varP h fun _ _ => rfl
end
section
variable {K : PySem.W.Frag} {σ : L2.St} {te ta tb : TE} {tt : TT} {d : PyData} {D : Ends} {M : Addr → Prop} {A0 B0 A B : Hp}
theorem s_asg {i : Nat} (S : Tot M A0 B0 A B) (h : EvD K te σ A d) (k : ∀ v A' B', Stp A B A' B' → Tot M A0 B0 A' B' → Dp K A' v d → D.nx (σ.set i (some v)) B') : tAsg te (gName i) D σ B :=
  st_asg h S.le fun v A' B' s p => k v A' B' s (S.go s) p
theorem s_asgP {i : Nat} {P : Hp → V → Prop} (S : Tot M A0 B0 A B) (h : EvP te σ A P) (k : ∀ v A' B', Stp A B A' B' → Tot M A0 B0 A' B' → P A' v → D.nx (σ.set i (some v)) B') : tAsg te (gName i) D σ B :=
  st_asg h S.le fun v A' B' s p => k v A' B' s (S.go s) p
theorem s_if {b : Bool} {tu tw : TS} (S : Tot M A0 B0 A B) (h : EvT K tt σ A b) (h1 : b = true → ∀ A' B', Stp A B A' B' → Tot M A0 B0 A' B' → tu D σ B') (h2 : b = false → ∀ A' B', Stp A B A' B' → Tot M A0 B0 A' B' → tw D σ B') : tIfS tt tu tw D σ B :=
  st_if h S.le (fun e A' B' s => h1 e A' B' s (S.go s)) (fun e A' B' s => h2 e A' B' s (S.go s))
theorem s_ret (S : Tot (fun _ => False) A0 B0 A B) (k : Ret K A0 B0 D.rt d) (h : EvD K te σ A d) : tRet te D σ B := st_retD h S.s k
theorem s_unp {n : Nat} {gs : TGs} {ds : List PyData} (S : Tot M A0 B0 A B) (h : EvD K te σ A (.tuple ds)) (hn : ds.length = n) (k : ∀ vs A' B', Stp A B A' B' → Tot M A0 B0 A' B' → DpAll K A' vs ds → gs vs σ B' D.nx) : tAsg te (gTup K n gs) D σ B :=
  st_unp h S.le hn fun vs A' B' s p => k vs A' B' s (S.go s) p
end
-- E6
structure DefF (K : PySem.W.Frag) (mg : Str → Option Value) (x : Str) (st : Stmt) (ps : List Str) : Prop where
  ex : ∃ (f : Addr) (fd : FuncData), Fun K x x st f fd ∧ mg x = some (.ref f) ∧ Binds K fd ps []
structure DefM (K : PySem.W.Frag) (C : Addr) (m qual : Str) (st : Stmt) (ps : List Str) : Prop where
  ex : ∃ (f : Addr) (fd : FuncData), Fun K m qual st f fd ∧ Cls K C ∧ Meth K C m f ∧ Binds K fd ps []
structure DefC (K : PySem.W.Frag) (mg : Str → Option Value) (C : Addr) (x qual : Str) (st : Stmt) (ps : List Str) : Prop where
  ex : ∃ (f : Addr) (fd : FuncData), Fun K "__init__" qual st f fd ∧ Mk K C f ∧ mg x = some (.ref C) ∧ Binds K fd ps []
/-- what is asked of the classes -/
structure Txt (K : PySem.W.Frag) (CR CC : Addr) : Prop where
  cr : Cls K CR
  cc : Cls K CC
  r1 : NoAttr K CR "letters"
  r2 : NoAttr K CR "lead"
  r3 : NoAttr K CR "finals"
  r4 : NoAttr K CR "table"
  c1 : NoAttr K CC "_first"
  c2 : NoAttr K CC "_second"
  c3 : NoAttr K CC "_live"
section
variable {P : Program} {w : World} {K : PySem.W.Frag} {mg : Str → Option Value} {base : Heap} {C : Addr} {k : Nat} {x m qual : Str} {st : Stmt} {N ps : List Str} {sp : Sp}
theorem okF_of (F : DefF K mg x st ps) (S : FnScope N ps (defScope st)) (len : ∀ vs H Q E, sp vs H Q E → vs.length = ps.length)
    (hb : ∀ (f : Addr) (cdv : Value) (A : Around) (outer : List Env) (s : Shared) (H : Hp) (vs : List V) (Q : VK) (E : XK), Room k (A.deeper (envOfC x (defScope st) s.heap.objs.size f cdv)) → sp vs H Q E →
      ∃ t, PSs (cxOf CX0 P w K mg base N x (defScope st) f cdv A outer s H E).nox (defBody st) t ∧ t { nx := fun _ H' => Q .non H', rt := Q } (start N vs) H) : OkF P w K mg base (k + 1) x ps sp := by
  obtain ⟨f, fd, F, hm, b⟩ := F.ex
  exact ⟨f, fd, F.ok S len (hb f), hm, F.kp, b⟩
theorem okM_of (F : DefM K C m qual st ps) (S : FnScope N ps (defScope st)) (len : ∀ vs H Q E, sp vs H Q E → vs.length = ps.length)
    (hb : ∀ (f : Addr) (cdv : Value) (A : Around) (outer : List Env) (s : Shared) (H : Hp) (vs : List V) (Q : VK) (E : XK), Room k (A.deeper (envOfC qual (defScope st) s.heap.objs.size f cdv)) → sp vs H Q E →
      ∃ t, PSs (cxOf CX0 P w K mg base N qual (defScope st) f cdv A outer s H E).nox (defBody st) t ∧ t { nx := fun _ H' => Q .non H', rt := Q } (start N vs) H) : OkM P w K mg base (k + 1) C m ps sp := by
  obtain ⟨f, fd, F, c, hm, b⟩ := F.ex
  exact ⟨f, fd, F.ok S len (hb f), c, hm, b⟩
theorem okC_of (F : DefC K mg C x qual st ps) (S : FnScope N ps (defScope st)) (len : ∀ vs H Q E, sp vs H Q E → vs.length = ps.length)
    (hb : ∀ (f : Addr) (cdv : Value) (A : Around) (outer : List Env) (s : Shared) (H : Hp) (vs : List V) (Q : VK) (E : XK), Room k (A.deeper (envOfC qual (defScope st) s.heap.objs.size f cdv)) → sp vs H Q E →
      ∃ t, PSs (cxOf CX0 P w K mg base N qual (defScope st) f cdv A outer s H E).nox (defBody st) t ∧ t { nx := fun _ H' => Q .non H', rt := Q } (start N vs) H) : OkC P w K mg base (k + 1) x C ps sp := by
  obtain ⟨f, fd, F, M, hm, b⟩ := F.ex
  exact ⟨f, fd, F.ok S len (hb f), M, hm, b⟩
end
-- E7
/-! ### arguments of several kinds -/
def PsAt (A : Hp) : List (Hp → V → Prop) → List V → Prop
  | [], [] => True
  | P :: Ps, v :: vs => P A v ∧ PsAt A Ps vs
  | _, _ => False
abbrev isV (x : V) : Hp → V → Prop := fun _ v => v = x
abbrev isD (K : PySem.W.Frag) (d : PyData) : Hp → V → Prop := fun A v => Dp K A v d
def Mon (P : Hp → V → Prop) : Prop := ∀ A A' v, Ex A A' → P A v → P A' v
theorem mon_v {x : V} : Mon (isV x) := fun _ _ _ _ h => h
theorem mon_d {K : PySem.W.Frag} {d : PyData} : Mon (isD K d) := fun _ _ _ e h => dp_mono e h
section
variable {K : PySem.W.Frag} {σ : L2.St} {A0 : Hp} {te : TE} {tr : TA} {P P1 P2 P3 P4 : Hp → V → Prop} {Ps : List (Hp → V → Prop)}
theorem eap_nil : EvA tNil σ A0 fun A vs => PsAt A [] vs := ea_nil fun _ => trivial
theorem eap_cons (h : EvP te σ A0 P) (m : Mon P) (hr : EvA tr σ A0 fun A vs => PsAt A Ps vs) : EvA (tCons te tr) σ A0 fun A vs => PsAt A (P :: Ps) vs :=
  fun A B a b Q q => h A B a b _ fun v A1 B1 s1 p => hr A1 B1 (a.trans s1.kn) s1.le _ fun vs A2 B2 s2 p2 => q (v :: vs) A2 B2 (s1.trans s2) ⟨m _ _ _ s2.kn p, p2⟩
theorem ps_one {A : Hp} {vs : List V} (h : PsAt A [P1] vs) : ∃ v, vs = [v] ∧ P1 A v := by
  match vs, h with
  | [v], h => exact ⟨v, rfl, h.1⟩
theorem ps_two {A : Hp} {vs : List V} (h : PsAt A [P1, P2] vs) : ∃ u v, vs = [u, v] ∧ P1 A u ∧ P2 A v := by
  match vs, h with
  | [u, v], h => exact ⟨u, v, rfl, h.1, h.2.1⟩
theorem ps_three {A : Hp} {vs : List V} (h : PsAt A [P1, P2, P3] vs) : ∃ u v w, vs = [u, v, w] ∧ P1 A u ∧ P2 A v ∧ P3 A w := by
  match vs, h with
  | [u, v, w], h => exact ⟨u, v, w, rfl, h.1, h.2.1, h.2.2.1⟩
theorem ps_four {A : Hp} {vs : List V} (h : PsAt A [P1, P2, P3, P4] vs) : ∃ u v w x, vs = [u, v, w, x] ∧ P1 A u ∧ P2 A v ∧ P3 A w ∧ P4 A x := by
  match vs, h with
  | [u, v, w, x], h => exact ⟨u, v, w, x, rfl, h.1, h.2.1, h.2.2.1, h.2.2.2.1⟩
end
-- E8
theorem Stp.back {A As A2 B B2 : Hp} (e : Ex A As) (s : Stp As B A2 B2) : Stp A B A B2 := ⟨Ex.refl _, (e.trans s.kn).trans s.le, s.al, fun _ _ z => z, s.th⟩
section
variable {K : PySem.W.Frag} {σ : L2.St} {te ta tb : TE} {tA : TA} {d : PyData} {D : Ends} {M : Addr → Prop} {A0 B0 A B : Hp}
/-- a comprehension whose list is not known yet -/
theorem ev_lcU {α : Type} {wi : TI} {g : TG} {tt : TT} {vs : List Nat} (xs : List α) (enc : α → PyData) (f : α → Bool) (q : α → PyData) (hs : Src K wi σ A0 (xs.map enc)) (hl : xs.length ≤ 1000000)
    (ht : ∀ a ∈ xs, ∀ x A B, Ex A0 A → Ex A B → Dp K A x (enc a) → ∃ σ2, GEv g (wipe σ vs) B x σ2 ∧ wipe σ2 vs = wipe σ vs ∧ EvT K tt σ2 A (f a) ∧ (f a = true → EvD K te σ2 A (q a))) (A B : Hp) (a : Ex A0 A) (b : Ex A B) (Q : VK)
    (k : ∀ l us A' B', Stp A B A' B' → B l = none → A' l = none → B' l = some (.lst us) → DpAll K A' us ((xs.filter f).map q) → Q (.ref l) B') : tLc wi g tt te vs σ B Q := hs A B a b _ fun J A1 B1 G Y s W hG hY => by
  intro Dl hD
  rw [List.length_map] at W hY
  let Pv : Nat → Hp → Prop := fun i H => ∃ A2, StpM (fun _ => False) A1 B1 A2 H ∧ A2 Dl = none ∧ ∃ us, H Dl = some (.lst us) ∧ DpAll K A2 us (((xs.take i).filter f).map q)
  have hD0 : A1 Dl = none := ex_none s.le hD
  have hDB : B Dl = none := by
    cases e : B Dl with
    | none => rfl
    | some u => exact absurd hD (s.th Dl (by rw [e]; simp))
  refine lc_it W Pv ⟨A1, .newU s.le hD, hD0, [], upd_same, .nil⟩ (fun i H _ ⟨A2, S, _⟩ => hG H S.ex0) (fun i x H H' hi ⟨A2, S, n2, us, hu, pu⟩ y => ?_) (fun H ⟨A2, S, n2, us, hu, pu⟩ => ?_)
  · obtain ⟨A3, s3, d, hd, px⟩ := hY i H x H' A2 hi y S.kn S.le
    rw [List.getElem?_map, List.getElem?_eq_getElem hi] at hd
    cases hd
    have S3 := S.go s3
    have n3 : A3 Dl = none := s3.sp Dl (by rw [hu]; simp) n2
    have h3 : H' Dl = some (.lst us) := s3.al _ _ (fun z => z) hu
    obtain ⟨σ2, hg, hw, hT, hE⟩ := ht xs[i] (List.getElem_mem hi) x A3 H' ((a.trans s.kn).trans S3.kn) S3.le px
    refine hg _ ⟨hw, ?_⟩
    have etk : xs.take (i + 1) = xs.take i ++ [xs[i]] := by rw [List.take_add_one, List.getElem?_eq_getElem hi]; rfl
    have hlen : us.length ≤ i := by
      rw [da_len pu, List.length_map]
      have h1 := List.length_filter_le f (xs.take i)
      rw [List.length_take] at h1
      omega
    refine hT A3 H' (Ex.refl _) S3.le _ fun A4 B4 s4 => ?_
    have S4 := S3.go s4
    have n4 : A4 Dl = none := s4.sp Dl (by rw [h3]; simp) n3
    have h4 : B4 Dl = some (.lst us) := s4.al _ _ (fun z => z) h3
    cases hf : f xs[i] with
    | false =>
      refine iteF ⟨A4, S4, n4, us, h4, ?_⟩
      have e : ((xs.take (i + 1)).filter f) = (xs.take i).filter f := by rw [etk, List.filter_append]; simp [hf]
      rw [e]
      exact da_mono ((s3.kn).trans s4.kn) pu
    | true =>
      refine iteT (hE hf A4 B4 s4.kn s4.le _ fun v A5 B5 s5 p5 => ?_)
      have S5 := S4.go s5
      have n5 : A5 Dl = none := s5.sp Dl (by rw [h4]; simp) n4
      have h5 : B5 Dl = some (.lst us) := s5.al _ _ (fun z => z) h4
      refine ⟨us, h5, Nat.lt_of_le_of_lt hlen (Nat.lt_of_lt_of_le (Nat.lt_of_lt_of_le hi hl) (by decide)), A5, S5.mut (.inl hD) n5, n5, us ++ [v], upd_same, ?_⟩
      have e : ((xs.take (i + 1)).filter f) = (xs.take i).filter f ++ [xs[i]] := by rw [etk, List.filter_append]; simp [hf]
      rw [e, List.map_append]
      exact da_app (da_mono (((s3.kn).trans s4.kn).trans s5.kn) pu) (.cons p5 .nil)
  · rw [List.take_length] at pu
    exact k Dl us A2 H (s.trans S) hDB n2 hu pu
/-- two clauses; every item is True -/
theorem ev_lc2 {α β : Type} {wi wi1 : TI} {g g1 : TG} {vs vs1 : List Nat} (xs : List α) (enc : α → PyData) (f : α → List β) (enc1 : β → PyData) (hs : Src K wi σ A0 (xs.map enc)) (hl : ((xs.map fun a => (f a).length).sum) ≤ 1000000)
    (ht : ∀ a ∈ xs, ∀ x A B, Ex A0 A → Ex A B → Dp K A x (enc a) → ∃ σ2, GEv g (wipe σ vs) B x σ2 ∧ wipe σ2 vs = wipe σ vs ∧ Src K wi1 σ2 A ((f a).map enc1) ∧
      ∀ b ∈ f a, ∀ y A' B', Ex A A' → Ex A' B' → Dp K A' y (enc1 b) → ∃ σ3, GEv g1 (wipe σ2 vs1) B' y σ3 ∧ wipe σ3 vs1 = wipe σ2 vs1 ∧ EvD K te σ3 A' (.bool true)) :
    EvD K (tLc2 wi g tYes wi1 g1 tYes te vs vs1) σ A0 (.list ((List.replicate ((xs.map fun a => (f a).length).sum) true).map .bool)) := fun A B a b Q k => hs A B a b _ fun J A1 B1 G Y s W hG hY => by
  intro Dl hD
  rw [List.length_map] at W hY
  let N : Nat → Nat := fun i => ((xs.take i).map fun a => (f a).length).sum
  let Pv : Nat → Hp → Prop := fun i H => ∃ A2, StpM (fun _ => False) A1 B1 A2 H ∧ A2 Dl = none ∧ ∃ us, H Dl = some (.lst us) ∧ DpAll K A2 us ((List.replicate (N i) true).map .bool)
  have hD0 : A1 Dl = none := ex_none s.le hD
  have hNle : ∀ i, i ≤ xs.length → ∀ (hi : i < xs.length), N i + (f xs[i]).length = N (i + 1) := fun i _ hi => by
    show _ = ((xs.take (i + 1)).map fun a => (f a).length).sum
    rw [List.take_add_one, List.getElem?_eq_getElem hi, List.map_append, List.sum_append]
    simp [N]
  have hNmax : ∀ i, N i ≤ (xs.map fun a => (f a).length).sum := fun i => by
    have : xs = xs.take i ++ xs.drop i := (List.take_append_drop i xs).symm
    conv => rhs; rw [this]
    rw [List.map_append, List.sum_append]
    exact Nat.le_add_right _ _
  refine ⟨fun i m H => m = xs.length - i ∧ i ≤ xs.length ∧ Pv i H, ⟨_, rfl, Nat.zero_le _, A1, .newU s.le hD, hD0, [], upd_same, .nil⟩, ?_⟩
  rintro i m H ⟨rfl, hi, A2, S, n2, us, hu, pu⟩
  have gq := hG H S.ex0
  by_cases hlt : i < xs.length
  · refine .inr ⟨W.goes i H hlt gq, Pv (i + 1), fun H' p' => ⟨xs.length - (i + 1), by omega, rfl, hlt, p'⟩, fun x H' y => ?_⟩
    have y := W.yields i H x H' hlt gq y
    obtain ⟨A3, s3, d, hd, px⟩ := hY i H x H' A2 hlt y S.kn S.le
    rw [List.getElem?_map, List.getElem?_eq_getElem hlt] at hd
    cases hd
    have S3 := S.go s3
    have n3 : A3 Dl = none := s3.sp Dl (by rw [hu]; simp) n2
    have h3 : H' Dl = some (.lst us) := s3.al _ _ (fun z => z) hu
    obtain ⟨σ2, hg, hw, hs1, hT⟩ := ht xs[i] (List.getElem_mem hlt) x A3 H' ((a.trans s.kn).trans S3.kn) S3.le px
    refine hg _ ⟨hw, ?_⟩
    unfold tYes
    dsimp only
    rw [if_pos rfl]
    refine hs1 A3 H' (Ex.refl _) S3.le _ fun J1 A4 B4 G1 Y1 s4 W1 hG1 hY1 => ?_
    rw [List.length_map] at W1 hY1
    have S4 := S3.go s4
    have n4 : A4 Dl = none := s4.sp Dl (by rw [h3]; simp) n3
    have h4 : B4 Dl = some (.lst us) := s4.al _ _ (fun z => z) h3
    let Pv1 : Nat → Hp → Prop := fun j H => ∃ A5, StpM (fun _ => False) A1 B1 A5 H ∧ Ex A4 A5 ∧ A5 Dl = none ∧ ∃ us, H Dl = some (.lst us) ∧ DpAll K A5 us ((List.replicate (N i + j) true).map .bool)
    refine ⟨fun j k H => k = (f xs[i]).length - j ∧ j ≤ (f xs[i]).length ∧ Pv1 j H, ⟨_, rfl, Nat.zero_le _, A4, S4, Ex.refl _, n4, us, h4, da_mono (s3.kn.trans s4.kn) pu⟩, ?_⟩
    rintro j m1 H5 ⟨rfl, hj, A5, S5, e5, n5, us5, hu5, pu5⟩
    have gq1 := hG1 H5 (e5.trans S5.le)
    by_cases hjl : j < (f xs[i]).length
    · refine .inr ⟨W1.goes j H5 hjl gq1, Pv1 (j + 1), fun H' p' => ⟨(f xs[i]).length - (j + 1), by omega, rfl, hjl, p'⟩, fun y H6 yy => ?_⟩
      have yy := W1.yields j H5 y H6 hjl gq1 yy
      obtain ⟨A6, s6, d, hd, py⟩ := hY1 j H5 y H6 A5 hjl yy e5 S5.le
      rw [List.getElem?_map, List.getElem?_eq_getElem hjl] at hd
      cases hd
      have S6 := S5.go s6
      have n6 : A6 Dl = none := s6.sp Dl (by rw [hu5]; simp) n5
      have h6 : H6 Dl = some (.lst us5) := s6.al _ _ (fun z => z) hu5
      obtain ⟨σ3, hg1, hw1, hE⟩ := hT (f xs[i])[j] (List.getElem_mem hjl) y A6 H6 ((s4.kn.trans e5).trans s6.kn) S6.le py
      refine hg1 _ ⟨hw1, ?_⟩
      rw [if_pos rfl]
      refine hE A6 H6 (Ex.refl _) S6.le _ fun v A7 B7 s7 p7 => ?_
      have S7 := S6.go s7
      have n7 : A7 Dl = none := s7.sp Dl (by rw [h6]; simp) n6
      have h7 : B7 Dl = some (.lst us5) := s7.al _ _ (fun z => z) h6
      have hlen : us5.length = N i + j := by rw [da_len pu5, List.length_map, List.length_replicate]
      have hb1 := hNle i hi hlt
      have hb2 := hNmax (i + 1)
      refine ⟨us5, h7, Nat.lt_of_lt_of_le (by omega : us5.length < 1000000) (by decide), A7, S7.mut (.inl hD) n7, (e5.trans s6.kn).trans s7.kn, n7, us5 ++ [v], upd_same, ?_⟩
      have e : N i + (j + 1) = (N i + j) + 1 := rfl
      rw [e, List.replicate_succ', List.map_append]
      exact da_app (da_mono (s6.kn.trans s7.kn) pu5) (.cons p7 .nil)
    · have e : j = (f xs[i]).length := by omega
      subst e
      refine .inl ⟨W1.stops H5 gq1, A5, S5, n5, us5, hu5, ?_⟩
      rw [← hNle i hi hlt]
      exact pu5
  · have e : i = xs.length := by omega
    subst e
    refine .inl ⟨W.stops H gq, ?_⟩
    have hN : N xs.length = (xs.map fun a => (f a).length).sum := by
      show ((xs.take xs.length).map fun a => (f a).length).sum = _
      rw [List.take_length]
    rw [hN] at pu
    have S' := S.frz hD n2 hu
    exact k _ _ H (s.trans S') (.lst (SqL.of upd_same) (da_mono (Ex.new n2) pu))
/-! ### lists of the heap itself -/
def HL (K : PySem.W.Frag) (ds : List PyData) : Hp → V → Prop := fun A v => ∃ l us, v = .ref l ∧ A l = some (.lst us) ∧ DpAll K A us ds
theorem HL.mono {ds : List PyData} {A A' : Hp} {v : V} (e : Ex A A') (h : HL K ds A v) : HL K ds A' v := by
  obtain ⟨l, us, h1, h2, h3⟩ := h
  exact ⟨l, us, h1, e _ _ h2, da_mono e h3⟩
theorem HL.dp {ds : List PyData} {A : Hp} {v : V} (h : HL K ds A v) : Dp K A v (.list ds) := by
  obtain ⟨l, us, rfl, h2, h3⟩ := h
  exact .lst (SqL.of h2) h3
theorem mon_h {ds : List PyData} : Mon (HL K ds) := fun _ _ _ e h => h.mono e
abbrev EvL (K : PySem.W.Frag) (te : TE) (σ : L2.St) (A : Hp) (ds : List PyData) : Prop := EvP te σ A (HL K ds)
theorem EvP.dp {ds : List PyData} (h : EvL K te σ A0 ds) : EvD K te σ A0 (.list ds) := h.imp fun _ _ _ p => p.dp
theorem evl_lst {ds : List PyData} (h : EvAD K tA σ A0 ds) (hl : ds.length ≤ 1000000) : EvL K (tLst tA) σ A0 ds := fun A B a b Q q =>
  h A B a b _ fun vs A' B' s p => ⟨Nat.le_trans (by rw [da_len p]; exact hl) (by decide), fun x hx => q _ (upd A' x (.lst vs)) _ (s.trans (.new s.le hx)) ⟨x, vs, rfl, upd_same, da_mono (StpM.new (M := fun _ => False) s.le hx).kn p⟩⟩
theorem evl_add {xs ys : List PyData} (ha : EvL K ta σ A0 xs) (hb : EvL K tb σ A0 ys) (hl : xs.length + ys.length ≤ 1000000) : EvL K (tOp (rPlus K) ta tb) σ A0 (xs ++ ys) := fun A B a b Q q =>
  ha A B a b _ fun u A1 B1 s1 p => hb A1 B1 (a.trans s1.kn) s1.le _ fun v A2 B2 s2 q2 => by
    obtain ⟨l1, us, rfl, h1, pa⟩ := p.mono s2.kn
    obtain ⟨l2, ws, rfl, h2, pb⟩ := q2
    have e1 := da_len pa
    have e2 := da_len pb
    refine .inr (.inr (.inl ⟨l1, l2, us, ws, rfl, rfl, s2.le _ _ h1, s2.le _ _ h2, Nat.le_trans (by omega : us.length + ws.length ≤ 1000000) (by decide), fun p hp => ?_⟩))
    exact q _ (upd A2 p (.lst (us ++ ws))) _ ((s1.trans s2).trans (.new s2.le hp)) ⟨p, us ++ ws, rfl, upd_same, da_mono (StpM.new (M := fun _ => False) s2.le hp).kn (da_app pa pb)⟩
theorem evl_lc {α : Type} {wi : TI} {g : TG} {tt : TT} {vs : List Nat} (xs : List α) (enc : α → PyData) (f : α → Bool) (q : α → PyData) (hs : Src K wi σ A0 (xs.map enc)) (hl : xs.length ≤ 1000000)
    (ht : ∀ a ∈ xs, ∀ x A B, Ex A0 A → Ex A B → Dp K A x (enc a) → ∃ σ2, GEv g (wipe σ vs) B x σ2 ∧ wipe σ2 vs = wipe σ vs ∧ EvT K tt σ2 A (f a) ∧ (f a = true → EvD K te σ2 A (q a))) : EvL K (tLc wi g tt te vs) σ A0 ((xs.filter f).map q) := fun A B a b Q k =>
  ev_lcU xs enc f q hs hl ht A B a b Q fun l us A' B' s hB hA hl pu => k _ (upd A' l (.lst us)) B' (s.frz hB hA hl) ⟨l, us, rfl, upd_same, da_mono (Ex.new hA) pu⟩
/-- x = a + b, a list that will change -/
theorem st_newAdd {i : Nat} {xs ys : List PyData} (ha : EvL K ta σ A xs) (hb : EvL K tb σ A ys) (S : Tot M A0 B0 A B) (hl : xs.length + ys.length ≤ 1000000) (k : ∀ l vs A' B', Stp A B A' B' → DpAll K A' vs (xs ++ ys) → Tot M A0 B0 A' (upd B' l (.lst vs)) → Own A0 B0 A' (upd B' l (.lst vs)) l (.lst vs) → B' l = none → D.nx (σ.set i (some (.ref l))) (upd B' l (.lst vs))) : tAsg (tOp (rPlus K) ta tb) (gName i) D σ B :=
  ha A B (Ex.refl _) S.le _ fun u A1 B1 s1 p => hb A1 B1 s1.kn s1.le _ fun v A2 B2 s2 q2 => by
    obtain ⟨l1, us, rfl, h1, pa⟩ := p.mono s2.kn
    obtain ⟨l2, ws, rfl, h2, pb⟩ := q2
    have e1 := da_len pa
    have e2 := da_len pb
    refine .inr (.inr (.inl ⟨l1, l2, us, ws, rfl, rfl, s2.le _ _ h1, s2.le _ _ h2, Nat.le_trans (by omega : us.length + ws.length ≤ 1000000) (by decide), fun p hp => ?_⟩))
    obtain ⟨S1, O1⟩ := ((S.go s1).go s2).newU (o := .lst (us ++ ws)) hp
    exact k p _ A2 B2 (s1.trans s2) (da_app pa pb) S1 O1 hp
/-- x = [.. for ..], a list that will change -/
theorem st_newLc {α : Type} {wi : TI} {g : TG} {tt : TT} {vs : List Nat} {i : Nat} (xs : List α) (enc : α → PyData) (f : α → Bool) (q : α → PyData) (S : Tot M A0 B0 A B) (hs : Src K wi σ A (xs.map enc)) (hl : xs.length ≤ 1000000)
    (ht : ∀ a ∈ xs, ∀ x A' B', Ex A A' → Ex A' B' → Dp K A' x (enc a) → ∃ σ2, GEv g (wipe σ vs) B' x σ2 ∧ wipe σ2 vs = wipe σ vs ∧ EvT K tt σ2 A' (f a) ∧ (f a = true → EvD K te σ2 A' (q a)))
    (k : ∀ l us A' B', Stp A B A' B' → DpAll K A' us ((xs.filter f).map q) → Tot M A0 B0 A' B' → Own A0 B0 A' B' l (.lst us) → D.nx (σ.set i (some (.ref l))) B') : tAsg (tLc wi g tt te vs) (gName i) D σ B :=
  ev_lcU xs enc f q hs hl ht A B (Ex.refl _) S.le _ fun l us A' B' s hB hA hl pu => k l us A' B' s pu (S.go s) ⟨hl, by
    cases q : B0 l with
    | none => rfl
    | some u => exact absurd hB (S.s.th l (by rw [q]; simp)), hA⟩
/-! ### fields -/
theorem st_fld {p dx C : Addr} {fs : List (Str × V)} {f : Str} {P : Hp → V → Prop} (ho : ∀ A, EvP ta σ A fun _ v => v = .ref p) (h : EvP te σ A P) (S : Tot M A0 B0 A B) (O : Own A0 B0 A B p (.ins C dx fs)) (hc : Cls K C) (hn : NoAttr K C f) (hl : fs.length < 1000)
    (k : ∀ v A' B', Stp A B A' B' → P A' v → Tot M A0 B0 A' (upd B' p (.ins C dx (putF f v fs))) → Own A0 B0 A' (upd B' p (.ins C dx (putF f v fs))) p (.ins C dx (putF f v fs)) → D.nx σ (upd B' p (.ins C dx (putF f v fs)))) : sFld K ta te f D σ B :=
  h A B (Ex.refl _) S.le _ fun v A1 B1 s1 pv => ho A1 A1 B1 (Ex.refl _) s1.le _ fun w A2 B2 s2 e => by
    subst e
    have O2 := (O.go s1).go s2
    have S2 := (S.go s1).go s2
    have s3 : Stp A B A1 B2 := s1.trans (s2.back (Ex.refl _))
    have S3 : Tot M A0 B0 A1 B2 := S.go s3
    have O3 := O.go s3
    exact ⟨p, C, dx, fs, rfl, O2.at_, hc, hn, hl, k v A1 B2 s3 pv (S3.mut O3) O3.put⟩
/-- C(..) -/
theorem ev_make {C : Addr} {sp : Sp} {R : Hp → List V → Prop} {Pv : Hp → V → Prop} (h : EvA tA σ A0 R)
    (hs : ∀ A B vs, Ex A0 A → Ex A B → R A vs → ∀ p dx H, Tot (fun _ => False) A B A H → Own A B A H p (.ins C dx []) → ∀ Q : VK, (∀ A' B', Tot (fun _ => False) A B A' B' → Pv A' (.ref p) → Q .non B') → sp (.ref p :: vs) H Q E0) :
    EvP (tMake C sp [] E0 tA) σ A0 Pv := fun A B a b Q q => h A B a b _ fun vs A1 B1 s1 r p dx hp hdx hne => by
  obtain ⟨S1, O1⟩ := (Tot.refl (M := fun _ => False) s1.le).newU (o := .own p) hdx
  obtain ⟨S2, O2⟩ := S1.newU (l := p) (o := .ins C dx []) (by rw [upd_ne (Ne.symm hne)]; exact hp)
  rw [List.append_nil]
  exact hs A1 B1 vs (a.trans s1.kn) s1.le r p dx _ S2 O2 _ fun A' B' S pv => ⟨rfl, q _ A' B' (s1.trans S.s) pv⟩
end
-- M1
abbrev tl (x : Str) : List Nat := x.cps.toList
theorem tl_len (x : Str) : (tl x).length = x.length := by simp [tl, Str.length]
theorem tl_app (x y : Str) : tl (x ++ y) = tl x ++ tl y := TL.tl_append x y
theorem tl_ext {x y : Str} (h : tl x = tl y) : x = y := TL.ext_tl h
theorem tl_mk (l : List Nat) : tl ⟨l.toArray⟩ = l := rfl
theorem len_app (x y : Str) : (x ++ y).length = x.length + y.length := Str.length_append x y
/-- the length of the longest common beginning -/
def cpl : List Nat → List Nat → Nat
  | x :: xs, y :: ys => if x = y then cpl xs ys + 1 else 0
  | _, _ => 0
theorem cpl_le : ∀ xs ys : List Nat, cpl xs ys ≤ xs.length ∧ cpl xs ys ≤ ys.length
  | [], _ => by simp [cpl]
  | _ :: _, [] => by simp [cpl]
  | x :: xs, y :: ys => by
    have ih := cpl_le xs ys
    unfold cpl
    split
    · simp only [List.length_cons]; omega
    · simp
theorem cpl_lt : ∀ (xs ys : List Nat) (n : Nat), n ≤ cpl xs ys → (n < cpl xs ys ↔ ∃ c, xs[n]? = some c ∧ ys[n]? = some c)
  | [], _, n, h => by simp [cpl]
  | _ :: _, [], n, h => by simp [cpl]
  | x :: xs, y :: ys, n, h => by
    unfold cpl at h ⊢
    by_cases e : x = y
    · rw [if_pos e] at h ⊢
      cases n with
      | zero => simp [e]
      | succ n =>
        have ih := cpl_lt xs ys n (by omega)
        simp only [List.getElem?_cons_succ]
        rw [← ih]
        omega
    · rw [if_neg e] at h ⊢
      have e0 : n = 0 := by omega
      subst e0
      simp only [List.getElem?_cons_zero, Nat.lt_irrefl, false_iff]
      rintro ⟨c, h1, h2⟩
      cases h1
      cases h2
      exact e rfl
theorem cpl_take : ∀ xs ys : List Nat, xs.take (cpl xs ys) = ys.take (cpl xs ys)
  | [], _ => by simp [cpl]
  | _ :: _, [] => by simp [cpl]
  | x :: xs, y :: ys => by
    unfold cpl
    split
    · rename_i e
      rw [List.take_succ_cons, List.take_succ_cons, cpl_take xs ys, e]
    · simp
theorem cpl_app (c a b : List Nat) : cpl (c ++ a) (c ++ b) = c.length + cpl a b := by
  induction c with
  | nil => simp
  | cons x c ih =>
    show (if x = x then cpl (c ++ a) (c ++ b) + 1 else 0) = _
    rw [if_pos rfl, ih, List.length_cons]
    omega
theorem cpl_nil_r (a : List Nat) : cpl a [] = 0 := by cases a <;> rfl
theorem cpl_nil_l (a : List Nat) : cpl [] a = 0 := rfl
/-- a text from its n-th sign on -/
def dropS (x : Str) (n : Nat) : Str := ⟨((tl x).drop n).toArray⟩
def takeS (x : Str) (n : Nat) : Str := ⟨((tl x).take n).toArray⟩
theorem tl_dropS (x : Str) (n : Nat) : tl (dropS x n) = (tl x).drop n := rfl
theorem tl_takeS (x : Str) (n : Nat) : tl (takeS x n) = (tl x).take n := rfl
theorem cutS_from (x : Str) (n : Nat) : cutS x (some (n : Int)) none = dropS x n := by
  refine tl_ext ?_
  show ((tl x).drop (HT.sIx x.length 0 (some (n : Int)))).take (HT.sIx x.length x.length none - HT.sIx x.length 0 (some (n : Int))) = (tl x).drop n
  rw [HT.sIx_nat, HT.sIx_none]
  by_cases h : n ≤ x.length
  · rw [Nat.min_eq_left h]
    refine List.take_of_length_le ?_
    rw [List.length_drop, tl_len]
    exact Nat.le_refl _
  · rw [Nat.min_eq_right (by omega), List.drop_of_length_le (by rw [tl_len]; omega), List.drop_of_length_le (by rw [tl_len]; omega)]
    simp
theorem cutS_to (x : Str) (n : Nat) : cutS x none (some (n : Int)) = takeS x n := by
  refine tl_ext ?_
  show ((tl x).drop (HT.sIx x.length 0 none)).take (HT.sIx x.length x.length (some (n : Int)) - HT.sIx x.length 0 none) = (tl x).take n
  rw [HT.sIx_nat, HT.sIx_none, List.drop_zero, Nat.sub_zero]
  by_cases h : n ≤ x.length
  · rw [Nat.min_eq_left h]
  · rw [Nat.min_eq_right (by omega), List.take_of_length_le (by rw [tl_len]; omega), List.take_of_length_le (by rw [tl_len]; omega)]
theorem len_dropS (x : Str) (n : Nat) : (dropS x n).length = x.length - n := by rw [← tl_len, tl_dropS, List.length_drop, tl_len]
theorem len_takeS (x : Str) (n : Nat) : (takeS x n).length = min n x.length := by rw [← tl_len, tl_takeS, List.length_take, tl_len]
/-- what two texts owe -/
def ow (x y : Str) : Str × Str := (dropS x (cpl (tl x) (tl y)), dropS y (cpl (tl x) (tl y)))
-- M2
/-! ### rewriters and papers as plain data -/
abbrev Way := Option (Nat × Str)
structure Rw where
  lead : Str
  fin : List (Option Str)
  tab : List (List Way)
def eS : Option Str → PyData
  | none => .none
  | some x => .str x
def eW : Way → PyData
  | none => .none
  | some w => .tuple [.int (w.1 : Nat), .str w.2]
def eRT (r : List Way) : PyData := .tuple (r.map eW)
def eRL (r : List Way) : PyData := .list (r.map eW)
def eParts (p : Rw) : PyData := .tuple [.str p.lead, .list (p.fin.map eS), .list (p.tab.map eRL)]
abbrev PRow := Int × Int × Str × Str
def eR (r : PRow) : PyData := .tuple [.int r.1, .int r.2.1, .str r.2.2.1, .str r.2.2.2]
structure Pap where
  gone : List Int
  far : List Int
  rows : List PRow
def eP (p : Pap) : PyData := .tuple [.tuple (p.gone.map .int), .tuple (p.far.map .int), .tuple (p.rows.map eR)]
/-- a text over the alphabet -/
structure Tx (L x : Str) : Prop where
  len : x.length ≤ 20
  mem : ∀ c ∈ tl x, c ∈ tl L
structure LOk (L : Str) : Prop where
  pos : 1 ≤ L.length
  two : L.length ≤ 2
  nd : (tl L).Nodup
  small : ∀ c ∈ tl L, c < 1000
structure Wf (L : Str) (p : Rw) : Prop where
  pos : 1 ≤ p.fin.length
  max : p.fin.length ≤ 4
  len : p.tab.length = p.fin.length
  row : ∀ r ∈ p.tab, r.length = L.length
  way : ∀ r ∈ p.tab, ∀ t x, some (t, x) ∈ r → t < p.fin.length ∧ Tx L x
  fins : ∀ x, some x ∈ p.fin → Tx L x
  lead : Tx L p.lead
/-- a string of moderate size with plain signs -/
structure Mo (x : Str) : Prop where
  len : x.length ≤ 100
  small : ∀ c ∈ tl x, c < 1000
structure POk (p : Pap) : Prop where
  g : p.gone.length ≤ 100
  f : p.far.length ≤ 100
  r : p.rows.length ≤ 1000
  a : ∀ r ∈ p.rows, Mo r.2.2.1 ∧ Mo r.2.2.2
theorem Tx.mo {L x : Str} (h : Tx L x) (l : LOk L) : Mo x := ⟨by have := h.len; omega, fun c hc => l.small c (h.mem c hc)⟩
/-! ### the rules of the document -/
def stops (w : Way) (S : List Int) : Bool := match w with
  | none => true
  | some (t, _) => decide ((t : Int) ∈ S)
def goneOne (p : Rw) (S : List Int) (s : Int) : Bool :=
  decide (0 ≤ s) && decide (s < (p.fin.length : Int)) && (match p.fin[s.toNat]? with | some none => true | _ => false) && ((p.tab[s.toNat]?).getD []).all fun w => stops w S
def goneOK (p : Rw) (S : List Int) : Bool := S.all (goneOne p S)
def endsOK : Option Str → Option Str → Str → Str → Bool
  | none, none, _, _ => true
  | some f, some g, a, b => decide (a ++ f = b ++ g)
  | _, _, _, _ => false
def nextRow (w v : Way) (a b : Str) : PRow := match w, v with
  | some (t, x), some (u, y) => ((t : Int), (u : Int), (ow (a ++ x) (b ++ y)).1, (ow (a ++ x) (b ++ y)).2)
  | _, _ => (0, 0, a, b)
def letterOK (p : Pap) (a b : Str) (w v : Way) : Bool := (stops w p.gone == stops v p.far) && (stops w p.gone || decide (nextRow w v a b ∈ p.rows))
def wayAt (p : Rw) (s : Int) (k : Nat) : Way := (((p.tab[s.toNat]?).getD [])[k]?).getD none
def finAt (p : Rw) (s : Int) : Option Str := (p.fin[s.toNat]?).getD none
def rowOK (F S : Rw) (n : Nat) (p : Pap) (r : PRow) : Bool :=
  (decide (0 ≤ r.1) && decide (r.1 < (F.fin.length : Int))) && (decide (0 ≤ r.2.1) && decide (r.2.1 < (S.fin.length : Int))) && endsOK (finAt F r.1) (finAt S r.2.1) r.2.2.1 r.2.2.2 &&
    (List.range n).all fun k => letterOK p r.2.2.1 r.2.2.2 (wayAt F r.1 k) (wayAt S r.2.1 k)
def taken (F S : Rw) (n : Nat) (p : Pap) : Bool :=
  goneOK F p.gone && goneOK S p.far && (if decide ((0 : Int) ∈ p.gone) || decide ((0 : Int) ∈ p.far) then decide ((0 : Int) ∈ p.gone) && decide ((0 : Int) ∈ p.far)
    else decide (((0 : Int), (0 : Int), (ow F.lead S.lead).1, (ow F.lead S.lead).2) ∈ p.rows) && p.rows.all (rowOK F S n p))
/-! ### equality of data -/
theorem eR_eqv (a b : PRow) : PyData.eqv (eR a) (eR b) = decide (a = b) := by
  obtain ⟨a1, a2, a3, a4⟩ := a
  obtain ⟨b1, b2, b3, b4⟩ := b
  have e : PyData.eqv (eR (a1, a2, a3, a4)) (eR (b1, b2, b3, b4)) = ((a1 == b1) && ((a2 == b2) && ((a3 == b3) && ((a4 == b4) && true)))) := by simp only [eR, PyData.eqv, PyData.eqvAll]
  rw [e, Bool.eq_iff_iff]
  simp only [Bool.and_eq_true, beq_iff_eq, decide_eq_true_eq, Prod.mk.injEq, and_true]
theorem any_eR (r : PRow) : ∀ rows : List PRow, ((rows.map eR).any fun z => PyData.eqv z (eR r)) = decide (r ∈ rows)
  | [] => by simp
  | x :: xs => by
    rw [List.map_cons, List.any_cons, any_eR r xs, eR_eqv, Bool.eq_iff_iff]
    simp only [Bool.or_eq_true, decide_eq_true_eq, List.mem_cons]
    exact ⟨fun h => h.elim (fun e => .inl e.symm) .inr, fun h => h.elim (fun e => .inl e.symm) .inr⟩
theorem strOk_mo {x : Str} (h : ∀ c ∈ tl x, c < 1000) : PyData.strOk x = true := by
  show x.cps.all (· < 0x110000) = true
  rw [Array.all_eq_true]
  intro i hi
  have := h x.cps[i] (by show x.cps[i] ∈ x.cps.toList; simp)
  simp only [decide_eq_true_eq]
  omega
theorem eR_lay {r : PRow} (h : Mo r.2.2.1 ∧ Mo r.2.2.2) : (eR r).canLay0 = true := by
  have h1 := strOk_mo h.1.small
  have h2 := strOk_mo h.2.small
  simp only [eR, PyData.canLay0, PyData.canLayAll0, h1, h2]
  rfl
theorem eR_depth (r : PRow) : (eR r).depth = 1 := by simp [eR, PyData.depth, PyData.depthAll]
theorem eRs_lay : ∀ rows : List PRow, (∀ r ∈ rows, Mo r.2.2.1 ∧ Mo r.2.2.2) → PyData.canLayAll0 (rows.map eR) = true
  | [], _ => by simp [PyData.canLayAll0]
  | r :: rs, h => by
    rw [List.map_cons, PyData.canLayAll0, eR_lay (h r List.mem_cons_self), eRs_lay rs fun z hz => h z (List.mem_cons_of_mem _ hz)]
    rfl
theorem eRs_depth : ∀ rows : List PRow, PyData.depthAll (rows.map eR) ≤ 1
  | [] => by simp [PyData.depthAll]
  | r :: rs => by
    have h1 := eRs_depth rs
    have h2 := eR_depth r
    simp only [List.map_cons, PyData.depthAll]
    omega
theorem eR_shaped {r : PRow} (h : Mo r.2.2.1 ∧ Mo r.2.2.2) : SeqAt.shaped (eR r) = true := by
  have h1 := eR_depth r
  show ((eR r).canLay0 && decide ((eR r).depth ≤ 64)) = true
  rw [Bool.and_eq_true]
  exact ⟨eR_lay h, decide_eq_true (by omega)⟩
theorem eRs_shaped {rows : List PRow} (h : ∀ r ∈ rows, Mo r.2.2.1 ∧ Mo r.2.2.2) : SeqAt.shaped (.tuple (rows.map eR)) = true := by
  have h1 := eRs_depth rows
  have h2 : PyData.depth (.tuple (rows.map eR)) ≤ 64 := by simp only [PyData.depth]; omega
  show (PyData.canLay0 (.tuple (rows.map eR)) && decide (PyData.depth (.tuple (rows.map eR)) ≤ 64)) = true
  rw [Bool.and_eq_true]
  exact ⟨by simp only [PyData.canLay0]; exact eRs_lay rows h, decide_eq_true h2⟩
theorem eRs_shapedL {rows : List PRow} (h : ∀ r ∈ rows, Mo r.2.2.1 ∧ Mo r.2.2.2) : SeqAt.shaped (.list (rows.map eR)) = true := by
  have h1 := eRs_depth rows
  have h2 : PyData.depth (.list (rows.map eR)) ≤ 64 := by simp only [PyData.depth]; omega
  show (PyData.canLay0 (.list (rows.map eR)) && decide (PyData.depth (.list (rows.map eR)) ≤ 64)) = true
  rw [Bool.and_eq_true]
  exact ⟨by simp only [PyData.canLay0]; exact eRs_lay rows h, decide_eq_true h2⟩
theorem Mo.app {x y : Str} (h : Mo x) (g : Mo y) (l : x.length + y.length ≤ 100) : Mo (x ++ y) := ⟨by rw [len_app]; exact l, fun c hc => by
  rw [tl_app] at hc
  rcases List.mem_append.mp hc with hc | hc
  · exact h.small c hc
  · exact g.small c hc⟩
theorem Mo.drop {x : Str} (h : Mo x) (n : Nat) : Mo (dropS x n) := ⟨by rw [len_dropS]; have := h.len; omega, fun c hc => h.small c (List.mem_of_mem_drop hc)⟩
/-- a sign in an alphabet stands at its one place -/
theorem occ_at {L : Str} (hn : (tl L).Nodup) {c j : Nat} (h : (tl L)[j]? = some c) : Builtin.Str.occurrences L ⟨#[c]⟩ 0 L.length 1 = [j] := by
  have h1 := StrLaws.found_one L c
  have hm : c ∈ L.cps.toList := List.mem_of_getElem? h
  rw [decide_eq_true hm] at h1
  have h2 := StrLaws.occ_length_le L ⟨#[c]⟩ 0 L.length 1
  have h3 := StrLaws.occ_spec L ⟨#[c]⟩ 0 L.length 1
  cases e : Builtin.Str.occurrences L ⟨#[c]⟩ 0 L.length 1 with
  | nil => rw [e] at h1; simp at h1
  | cons i r =>
    rw [e] at h2 h3
    have hr : r = [] := by
      cases r with
      | nil => rfl
      | cons a b => simp at h2
    have hi := (StrLaws.subAt_one L c i).mp (h3 i List.mem_cons_self)
    have : i = j := nd_ix hn hi h
    rw [hr, this]
-- M3
/-! ### a Rewriter that is known -/
def rfs (L lead : Str) (vf vt : V) : List (Str × V) := [("letters", .str L), ("lead", .str lead), ("finals", vf), ("table", vt)]
theorem lk_ne {f g : Str} {v : V} {r : List (Str × V)} (h : (f == g) = false) : ((g, v) :: r).lookup f = r.lookup f := by rw [List.lookup_cons, h]
theorem lk_eq {f : Str} {v : V} {r : List (Str × V)} : ((f, v) :: r).lookup f = some v := by rw [List.lookup_cons, beq_self_eq_true]
theorem rfs1 {L lead : Str} {vf vt : V} : (rfs L lead vf vt).lookup ("letters" : Str) = some (.str L) := lk_eq
theorem rfs2 {L lead : Str} {vf vt : V} : (rfs L lead vf vt).lookup ("lead" : Str) = some (.str lead) := (lk_ne (by decide +kernel)).trans lk_eq
theorem rfs3 {L lead : Str} {vf vt : V} : (rfs L lead vf vt).lookup ("finals" : Str) = some vf := (lk_ne (by decide +kernel)).trans ((lk_ne (by decide +kernel)).trans lk_eq)
theorem rfs4 {L lead : Str} {vf vt : V} : (rfs L lead vf vt).lookup ("table" : Str) = some vt := (lk_ne (by decide +kernel)).trans ((lk_ne (by decide +kernel)).trans ((lk_ne (by decide +kernel)).trans lk_eq))
theorem rfs0 {L lead : Str} {vf vt : V} {m : Str} (h1 : (m == ("letters" : Str)) = false) (h2 : (m == ("lead" : Str)) = false) (h3 : (m == ("finals" : Str)) = false) (h4 : (m == ("table" : Str)) = false) : (rfs L lead vf vt).lookup m = none :=
  (lk_ne h1).trans ((lk_ne h2).trans ((lk_ne h3).trans (lk_ne h4)))
structure RwAt (K : PySem.W.Frag) (CR : Addr) (A : Hp) (p : Addr) (L : Str) (P : Rw) : Prop where
  ex : ∃ (dx : Addr) (vf vt : V), A p = some (.ins CR dx (rfs L P.lead vf vt)) ∧ Dp K A vf (.tuple (P.fin.map eS)) ∧ Dp K A vt (.tuple (P.tab.map eRT))
  lok : LOk L
  wf : Wf L P
section
variable {K : PySem.W.Frag} {CR CC : Addr} {σ : L2.St} {A A' : Hp} {te ta tb : TE} {p : Addr} {L : Str} {P : Rw}
theorem RwAt.mono (e : Ex A A') (h : RwAt K CR A p L P) : RwAt K CR A' p L P := by
  obtain ⟨⟨dx, vf, vt, h1, h2, h3⟩, l, w⟩ := h
  exact ⟨⟨dx, vf, vt, e _ _ h1, dp_mono e h2, dp_mono e h3⟩, l, w⟩
theorem ev_fin (T : Txt K CR CC) (R : RwAt K CR A p L P) (ho : EvP te σ A fun _ v => v = .ref p) : EvD K (tFld K te "finals") σ A (.tuple (P.fin.map eS)) := by
  obtain ⟨dx, vf, vt, h1, h2, h3⟩ := R.ex
  exact ev_fld ho h1 T.cr T.r3 rfs3 fun A e => dp_mono e h2
theorem ev_tab (T : Txt K CR CC) (R : RwAt K CR A p L P) (ho : EvP te σ A fun _ v => v = .ref p) : EvD K (tFld K te "table") σ A (.tuple (P.tab.map eRT)) := by
  obtain ⟨dx, vf, vt, h1, h2, h3⟩ := R.ex
  exact ev_fld ho h1 T.cr T.r4 rfs4 fun A e => dp_mono e h3
theorem ev_lead (T : Txt K CR CC) (R : RwAt K CR A p L P) (ho : EvP te σ A fun _ v => v = .ref p) : EvD K (tFld K te "lead") σ A (.str P.lead) := by
  obtain ⟨dx, vf, vt, h1, h2, h3⟩ := R.ex
  exact ev_fld ho h1 T.cr T.r2 rfs2 fun A e => .str _
theorem ev_lets (T : Txt K CR CC) (R : RwAt K CR A p L P) (ho : EvP te σ A fun _ v => v = .ref p) : EvD K (tFld K te "letters") σ A (.str L) := by
  obtain ⟨dx, vf, vt, h1, h2, h3⟩ := R.ex
  exact ev_fld ho h1 T.cr T.r1 rfs1 fun A e => .str _
theorem ev_sidx {L : Str} {c j : Nat} (h1 : EvD K ta σ A (.str L)) (h2 : EvD K te σ A (.str ⟨#[c]⟩)) (hn : (tl L).Nodup) (h : (tl L)[j]? = some c) : EvD K (tBM K "str" rSIdx ta (tCons te tNil)) σ A (.int j) := fun A1 B1 a b Q q =>
  h1 A1 B1 a b _ fun u A2 B2 s2 p2 => by
    have e := dp_str p2
    subst e
    exact ⟨rfl, h2 A2 B2 (a.trans s2.kn) s2.le _ fun v A3 B3 s3 p3 => ⟨L, ⟨#[c]⟩, j, [], rfl, by rw [dp_str p3], occ_at hn h, q _ A3 B3 (s2.trans s3) (.int _)⟩⟩
/-- an item of mapped data by its place -/
theorem at_map {α : Type} {xs : List α} {enc : α → PyData} {i : Nat} {a : α} (h : xs[i]? = some a) : (xs.map enc)[i]? = some (enc a) := by rw [List.getElem?_map, h]; rfl
theorem Wf.tabAt (w : Wf L P) {s : Int} (h0 : 0 ≤ s) (h1 : s < (P.fin.length : Int)) : ∃ r, P.tab[s.toNat]? = some r ∧ r.length = L.length := by
  have hl := w.len
  have hi : s.toNat < P.tab.length := by omega
  exact ⟨P.tab[s.toNat], List.getElem?_eq_getElem hi, w.row _ (List.getElem_mem hi)⟩
theorem Wf.finAt (w : Wf L P) {s : Int} (h0 : 0 ≤ s) (h1 : s < (P.fin.length : Int)) : P.fin[s.toNat]? = some (finAt P s) := by
  have hi : s.toNat < P.fin.length := by omega
  unfold A26.finAt
  rw [List.getElem?_eq_getElem hi]
  rfl
theorem Wf.wayIs (w : Wf L P) {s : Int} {r : List Way} (hr : P.tab[s.toNat]? = some r) {k : Nat} (hk : k < r.length) : r[k]? = some (wayAt P s k) := by
  unfold wayAt
  rw [hr]
  show r[k]? = some ((r[k]?).getD none)
  rw [List.getElem?_eq_getElem hk]
  rfl
theorem Wf.finTx (w : Wf L P) {s : Int} {x : Str} (h : A26.finAt P s = some x) : Tx L x := by
  unfold A26.finAt at h
  cases e : P.fin[s.toNat]? with
  | none => rw [e] at h; cases h
  | some o =>
    rw [e] at h
    have h : o = some x := h
    subst h
    exact w.fins x (List.mem_of_getElem? e)
theorem Wf.wayTx (w : Wf L P) {s : Int} {k t : Nat} {x : Str} (h : wayAt P s k = some (t, x)) : t < P.fin.length ∧ Tx L x := by
  unfold wayAt at h
  cases e : P.tab[s.toNat]? with
  | none => rw [e] at h; cases h
  | some r =>
    rw [e] at h
    have h : (r[k]?).getD none = some (t, x) := h
    cases e2 : r[k]? with
    | none => rw [e2] at h; cases h
    | some o =>
      rw [e2] at h
      have h : o = some (t, x) := h
      subst h
      exact w.way r (List.mem_of_getElem? e) t x (List.mem_of_getElem? e2)
end
def sp_Rw_way (K : PySem.W.Frag) (CR CC : Addr) : Sp := fun vs H Q _ => ∃ (A : Hp) (p : Addr) (L : Str) (P : Rw) (s : Int) (j c : Nat), vs = [.ref p, .int s, .str ⟨#[c]⟩] ∧ Ex A H ∧ RwAt K CR A p L P ∧ 0 ≤ s ∧ s < (P.fin.length : Int) ∧ (tl L)[j]? = some c ∧ Ret K A H Q (eW (wayAt P s j))
section
variable {K : PySem.W.Frag} {CR CC : Addr} {σ : L2.St} {A A' : Hp} {te ta tb : TE} {p : Addr} {L : Str} {P : Rw}
theorem ev_way {s : Int} {j c : Nat} (R : RwAt K CR A p L P) (ho : EvP te σ A fun _ v => v = .ref p) (h1 : EvD K ta σ A (.int s)) (h2 : EvD K tb σ A (.str ⟨#[c]⟩)) (h0 : 0 ≤ s) (hs : s < (P.fin.length : Int)) (hj : (tl L)[j]? = some c) :
    EvD K (tMeth CR "way" (sp_Rw_way K CR CC) [] E0 te (tCons ta (tCons tb tNil))) σ A (eW (wayAt P s j)) := by
  obtain ⟨dx, vf, vt, i1, i2, i3⟩ := R.ex
  refine ev_meth (R := fun A vs => DpAll K A vs [.int s, .str ⟨#[c]⟩]) ho i1 (rfs0 (by decide +kernel) (by decide +kernel) (by decide +kernel) (by decide +kernel)) (ead_cons h1 (ead_cons h2 ead_nil)) fun A1 B1 vs e f pv Q k => ?_
  obtain ⟨u, v, rfl, p1, p2⟩ := da_two pv
  exact ⟨A1, p, L, P, s, j, c, by rw [dp_int p1, dp_str p2], f, R.mono e, h0, hs, hj, k⟩
end
-- W1
local macro_rules | `(tactic| walk_at "ex") => `(tactic| first
  | assumption | exact Ex.refl _ | exact Tot.le (by assumption) | exact StpM.le (by assumption) | exact StpM.kn (by assumption)
  | ((refine' Ex.trans ?u (StpM.kn ?v)); (case v => assumption); (case u => walk_at "ex"))
  | ((refine' Ex.trans ?u ?v); (case v => assumption); (case u => walk_at "ex")))
local macro_rules | `(tactic| walk_at "dp") => `(tactic| first
  | assumption | exact Dp.int _ | exact Dp.str _ | exact Dp.non | exact Dp.bl _ | ((refine' dp_mono ?u ?v); (case v => assumption); (case u => walk_at "ex")))
local macro_rules | `(tactic| walk_at "rw") => `(tactic| first | assumption | ((refine' RwAt.mono ?u ?v); (case v => assumption); (case u => walk_at "ex")))
local macro_rules | `(tactic| walk_at "ref") => `(tactic| ((with_reducible refine' ev_varP ?u (fun _ _ => ?v)); (case u => rfl); (case v => rfl)))
local macro_rules | `(tactic| walk_at "sz") => `(tactic| first | assumption | omega | decide | (simp only [len_app, List.length_cons, List.length_nil, List.length_map, List.length_append, List.length_range] at *; omega))
local macro_rules | `(tactic| walk_at "et") => `(tactic| first
  | ((with_reducible refine' et_test ?u); (case u => walk_at "ev"))
  | ((with_reducible refine' et_B ?u); (case u => walk_at "ev"))
  | ((with_reducible refine' et_and ?u (fun _ => ?v)); (case u => walk_at "et"); (case v => walk_at "et"))
  | ((with_reducible refine' et_or ?u (fun _ => ?v)); (case u => walk_at "et"); (case v => walk_at "et"))
  | ((with_reducible refine' et_not ?u); (case u => walk_at "et")))
local macro_rules | `(tactic| walk_at "eo") => `(tactic| first | (with_reducible exact eo_none) | ((with_reducible refine' eo_some ?u); (case u => walk_at "ev")))
local macro_rules | `(tactic| walk_at "ea") => `(tactic| first | (with_reducible exact ead_nil) | ((with_reducible refine' ead_cons ?u ?v); (case u => walk_at "ev"); (case v => walk_at "ea")))
local macro_rules | `(tactic| walk_at "eap") => `(tactic| first | (with_reducible exact eap_nil) | ((with_reducible refine' eap_cons (P := isV _) ?u mon_v ?v); (case u => walk_at "ref"); (case v => walk_at "eap")) | ((with_reducible refine' eap_cons (P := isD _ _) ?u mon_d ?v); (case u => walk_at "ev"); (case v => walk_at "eap")))
local macro_rules | `(tactic| walk_at "at") => `(tactic| first | assumption | rfl | (simp only [List.getElem?_map, List.getElem?_cons_zero, List.getElem?_cons_succ]; first | rfl | assumption))
local macro_rules | `(tactic| walk_at "ev2") => `(tactic| (case u => walk_at "ev"); (case v => walk_at "ev"))
local macro_rules | `(tactic| walk_at "ev") => `(tactic| first
  | ((with_reducible refine' ev_var ?u ?v); (case u => rfl); (case v => walk_at "dp"))
  | with_reducible exact ev_c fun _ => .int _
  | with_reducible exact ev_c fun _ => .str _
  | with_reducible exact ev_c fun _ => .non
  | with_reducible exact ev_c fun _ => .bl _
  | ((with_reducible refine' ev_len ?u ?v); (case u => walk_at "ev"); (case v => first | rfl | exact if_pos (by walk_at "sz")))
  | ((with_reducible refine' ev_addI ?u ?v); (case u => walk_at "ev"); (case v => walk_at "ev"))
  | ((with_reducible refine' ev_addS ?u ?v ?w); (case u => walk_at "ev"); (case v => walk_at "ev"); (case w => walk_at "sz"))
  | ((with_reducible refine' ev_subI ?u ?v); (case u => walk_at "ev"); (case v => walk_at "ev"))
  | ((with_reducible refine' ev_is0 ?u ?v ?w); (case u => walk_at "ev"); (case v => walk_at "ev"); (case w => rfl))
  | ((with_reducible refine' ev_is1 ?u ?v ?w); (case u => walk_at "ev"); (case v => walk_at "ev"); (case w => rfl))
  | ((with_reducible refine' ev_ltI ?u ?v); (case u => walk_at "ev"); (case v => walk_at "ev"))
  | ((with_reducible refine' ev_leI ?u ?v); (case u => walk_at "ev"); (case v => walk_at "ev"))
  | ((with_reducible refine' ev_gtI ?u ?v); (case u => walk_at "ev"); (case v => walk_at "ev"))
  | ((with_reducible refine' ev_geI ?u ?v); (case u => walk_at "ev"); (case v => walk_at "ev"))
  | ((with_reducible refine' ev_ixT ?u ?v ?w ?x); (case u => walk_at "ev"); (case v => walk_at "ev"); (case w => first | rfl | omega); (case x => walk_at "at"))
  | ((with_reducible refine' ev_ixL ?u ?v ?w ?x); (case u => walk_at "ev"); (case v => walk_at "ev"); (case w => first | rfl | omega); (case x => walk_at "at"))
  | ((with_reducible refine' ev_ixS ?u ?v ?w ?x); (case u => walk_at "ev"); (case v => walk_at "ev"); (case w => walk_at "sz"); (case x => walk_at "at"))
  | ((with_reducible refine' ev_eqS ?u ?v ?w); (case u => walk_at "ev"); (case v => walk_at "ev"); (case w => rfl))
  | ((with_reducible refine' ev_neS ?u ?v ?w); (case u => walk_at "ev"); (case v => walk_at "ev"); (case w => rfl))
  | ((with_reducible refine' ev_min2 ?u ?v); (case u => walk_at "ev"); (case v => walk_at "ev"))
  | ((with_reducible refine' ev_int ?u); (case u => walk_at "ev"))
  | ((with_reducible refine' ev_chain (p := fun i j => decide (i ≤ j)) (q := fun i j => decide (i < j)) ?u ?v (fun _ => ?w)); (case u => walk_at "ev"); (case v => walk_at "ev"); (case w => walk_at "ev"))
  | ((with_reducible refine' ev_tup ?u ?v); (case u => walk_at "ea"); (case v => exact Nat.le_of_ble_eq_true rfl))
  | ((with_reducible refine' ev_slS ?u ?v ?w ?x); (case u => walk_at "ev"); (case v => walk_at "eo"); (case w => walk_at "eo"); (case x => walk_at "sz"))
  | ((with_reducible refine' ev_slT ?u ?v ?w); (case u => walk_at "ev"); (case v => walk_at "eo"); (case w => walk_at "eo"))
  | ((with_reducible refine' ev_notV ?u); (case u => walk_at "ev"))
  | ((with_reducible refine' ev_fin ?u ?v ?w); (case u => assumption); (case w => walk_at "ref"); (case v => walk_at "rw"))
  | ((with_reducible refine' ev_tab ?u ?v ?w); (case u => assumption); (case w => walk_at "ref"); (case v => walk_at "rw"))
  | ((with_reducible refine' ev_lead ?u ?v ?w); (case u => assumption); (case w => walk_at "ref"); (case v => walk_at "rw"))
  | ((with_reducible refine' ev_lets ?u ?v ?w); (case u => assumption); (case w => walk_at "ref"); (case v => walk_at "rw")))
local macro_rules | `(tactic| walk_at "ret") => `(tactic| ((try dsimp only); (with_reducible refine' s_ret ?S ?k ?e); (case k => assumption); (case S => assumption)))
local macro_rules | `(tactic| walk_at "nx") => `(tactic| (dsimp only [tNext, tSeq]))
def sp_common (K : PySem.W.Frag) (CR CC : Addr) : Sp := fun vs H Q _ => ∃ (A : Hp) (x y : Str), vs = [.str x, .str y] ∧ Ex A H ∧ x.length ≤ 1000 ∧ y.length ≤ 1000 ∧ Ret K A H Q (.str (takeS x (cpl (tl x) (tl y))))
def sp_owed (K : PySem.W.Frag) (CR CC : Addr) : Sp := fun vs H Q _ => ∃ (A : Hp) (x y : Str), vs = [.str x, .str y] ∧ Ex A H ∧ x.length ≤ 1000 ∧ y.length ≤ 1000 ∧ Ret K A H Q (.tuple [.str (ow x y).1, .str (ow x y).2])
section
variable {P : Program} {w : World} {K : PySem.W.Frag} {mg : Str → Option Value} {base : Heap} {CR CC : Addr}
theorem ok_common (Bm : Bl mg) (T : Txt K CR CC)  (F : DefF K mg "common" s_common ["first", "second"]) : OkF P w K mg base 1 "common" ["first", "second"] (sp_common K CR CC) := by
  refine okF_of F sc_common (fun vs H Q E h => ?_) (fun f cdv Ar outer s H vs Q E hr h => ?_)
  · obtain ⟨A, x, y, rfl, _⟩ := h
    rfl
  · obtain ⟨A0, x, y, rfl, hx, lx, ly, k⟩ := h
    have hu := hu_of hr
    refine ⟨_, (pss_cons (ps_set (i := 2) sc_common.nd rfl (Or.inl rfl) pe_int)
      (pss_cons (ps_while PassesOwn.never (PW.pt (pw_and (pt_cmpR op_lt (pv 2) (b_min2 K rfl rfl Bm.m_min (pa_cons (b_len K rfl Bm.m_len (pa_cons (pv 0) pa_nil)) (pa_cons (b_len K rfl Bm.m_len (pa_cons (pv 1) pa_nil)) pa_nil))) (nomark _)) (pw_and1 (pt_cmpR (eq_K K hr) (pe_ix (ix_K K) (pv 0) (pv 2) (fun _ _ => rfl)) (pe_ix (ix_K K) (pv 1) (pv 2) (fun _ _ => rfl)) (nomark _)))))
       (pss_one (ps_set (i := 2) sc_common.nd rfl (Or.inl rfl) (pe_op (plus_K K) (pv 2) pe_int))))
      (pss_one (ps_ret (pe_slice (sl_K K) (pv 0) po_none (po_some (pv 2))))))), ?_⟩
    have S0 : Tot (fun _ => False) A0 H A0 H := .refl hx
    refine s_asg (K := K) S0 (by walk_at "ev") fun v A1 B1 s1 S1 p1 => ?_
    have ev := dp_int p1
    subst ev
    refine st_while (K := K) (fun m σ A B => ∃ n : Nat, σ = [some (.str x), some (.str y), some (.int n)] ∧ n ≤ cpl (tl x) (tl y) ∧ m = cpl (tl x) (tl y) - n ∧ Tot (fun _ => False) A0 H A B) (cpl (tl x) (tl y)) ⟨0, rfl, Nat.zero_le _, rfl, S1⟩ ?_
    rintro m σ' A B ⟨n, rfl, hn, rfl, S⟩
    have hle := cpl_le (tl x) (tl y)
    rw [tl_len, tl_len] at hle
    have hiff := cpl_lt (tl x) (tl y) n hn
    refine ⟨decide (n < cpl (tl x) (tl y)), ?_, S.le, fun hb A1 B1 s1 => ?_, fun hb A1 B1 s1 => ?_⟩
    · by_cases hm : n < x.length ∧ n < y.length
      · have h1 : n < (tl x).length := by rw [tl_len]; exact hm.1
        have h2 : n < (tl y).length := by rw [tl_len]; exact hm.2
        have g1 : atI (tl x) (n : Int) = some (tl x)[n] := atI_nat (List.getElem?_eq_getElem h1)
        have g2 : atI (tl y) (n : Int) = some (tl y)[n] := atI_nat (List.getElem?_eq_getElem h2)
        refine et_is (et_and (by walk_at "et") fun _ => et_test (ev_eqS (ev_ixS (by walk_at "ev") (by walk_at "ev") (by omega) g1) (ev_ixS (by walk_at "ev") (by walk_at "ev") (by omega) g2) rfl)) ?_
        rw [Bool.eq_iff_iff]
        simp only [Bool.and_eq_true, decide_eq_true_eq]
        rw [hiff, List.getElem?_eq_getElem h1, List.getElem?_eq_getElem h2]
        constructor
        · rintro ⟨_, h2⟩
          exact ⟨_, rfl, by simpa using h2.symm⟩
        · rintro ⟨c, h1, h2⟩
          refine ⟨by split <;> omega, ?_⟩
          cases h1
          simpa using h2.symm
      · refine et_is (et_and (a := false) (b := false) (et_is (by walk_at "et") ?_) (fun z => nomatch z)) ?_
        · refine decide_eq_false ?_
          split <;> omega
        · symm
          refine decide_eq_false ?_
          omega
    · have hlt := of_decide_eq_true hb
      refine s_asg (K := K) (S.go s1) (by walk_at "ev") fun v A2 B2 s2 S2 p2 => ?_
      have ev := dp_int p2
      subst ev
      exact ⟨A2, _, by omega, n + 1, rfl, by omega, rfl, S2⟩
    · have hge : n = cpl (tl x) (tl y) := by
        have := of_decide_eq_false hb
        omega
      subst hge
      have S1 := S.go s1
      walk_at "ret"
      rw [← cutS_to]
      walk_at "ev"
theorem ok_owed (Bm : Bl mg) (T : Txt K CR CC) (O_common : OkF P w K mg base 1 "common" ["first", "second"] (sp_common K CR CC)) (F : DefF K mg "owed" s_owed ["first", "second"]) : OkF P w K mg base 2 "owed" ["first", "second"] (sp_owed K CR CC) := by
  refine okF_of F sc_owed (fun vs H Q E h => ?_) (fun f cdv Ar outer s H vs Q E hr h => ?_)
  · obtain ⟨A, x, y, rfl, _⟩ := h
    rfl
  · obtain ⟨A0, x, y, rfl, hx, lx, ly, k⟩ := h
    have hu := hu_of hr
    refine ⟨_, (pss_cons (ps_set (i := 2) sc_owed.nd rfl (Or.inl rfl) (b_len K rfl Bm.m_len (pa_cons (pe_F O_common (hr.mono (by decide)) rfl (pa_cons (pv 0) (pa_cons (pv 1) pa_nil))) pa_nil)))
      (pss_one (ps_ret (pe_tup (pa_cons (pe_slice (sl_K K) (pv 0) (po_some (pv 2)) po_none) (pa_cons (pe_slice (sl_K K) (pv 1) (po_some (pv 2)) po_none) pa_nil)))))), ?_⟩
    have S0 : Tot (fun _ => False) A0 H A0 H := .refl hx
    refine s_asg (K := K) S0 (ev_len (d := .str (takeS x (cpl (tl x) (tl y)))) (ev_call (R := fun A vs => DpAll K A vs [.str x, .str y]) (by walk_at "ea") fun A B vs e f p Q k => ?_) (if_pos (by rw [len_takeS]; omega))) fun v A1 B1 s1 S1 p1 => ?_
    · obtain ⟨u, v, rfl, p, q⟩ := da_two p
      exact ⟨A, x, y, by rw [dp_str p, dp_str q], f, lx, ly, k⟩
    have ev := dp_int p1
    subst ev
    have e1 : (takeS x (cpl (tl x) (tl y))).length = cpl (tl x) (tl y) := by
      have := cpl_le (tl x) (tl y)
      rw [len_takeS]
      rw [tl_len, tl_len] at this
      omega
    rw [e1]
    walk_at "ret"
    unfold ow
    rw [← cutS_from, ← cutS_from]
    dsimp only
    walk_at "ev"
end
-- W2
def sp_live_way (K : PySem.W.Frag) (CR CC : Addr) : Sp := fun vs H Q _ => ∃ (A : Hp) (p : Addr) (L : Str) (P : Rw) (v : V) (ns : List Int) (s : Int) (j c : Nat), vs = [.ref p, v, .int s, .str ⟨#[c]⟩] ∧ Ex A H ∧ RwAt K CR A p L P ∧ Dp K A v (.list (ns.map .int)) ∧ 0 ≤ s ∧ s < (P.fin.length : Int) ∧ (tl L)[j]? = some c ∧
  Ret K A H Q (eW (if stops (wayAt P s j) ns then wayAt P s j else none) )
section
variable {P : Program} {w : World} {K : PySem.W.Frag} {mg : Str → Option Value} {base : Heap} {CR CC : Addr}
theorem ok_Rw_way (Bm : Bl mg) (T : Txt K CR CC)  (F : DefM K CR "way" "Rewriter.way" s_Rw_way ["self", "state", "letter"]) : OkM P w K mg base 1 CR "way" ["self", "state", "letter"] (sp_Rw_way K CR CC) := by
  refine okM_of F sc_Rw_way (fun vs H Q E h => ?_) (fun f cdv Ar outer s H vs Q E hr h => ?_)
  · obtain ⟨A, p, L, P, s, j, c, rfl, _⟩ := h
    rfl
  · obtain ⟨A0, p, L, P, s, j, c, rfl, hx, R, h0, h1, hj, k⟩ := h
    have hu := hu_of hr
    refine ⟨_, (pss_one (ps_ret (pe_ix (ix_K K) (pe_ix (ix_K K) (fld_K K (pv 0)) (pv 1) (fun _ _ => rfl)) (bm_K K PySem.F.plainAttrs_str PySem.F.slot_str_index PySem.F.type_str_index sindex_R (fld_K K (pv 0)) (pa_cons (pv 2) pa_nil)) (fun _ _ => rfl)))), ?_⟩
    have S0 : Tot (fun _ => False) A0 H A0 H := .refl hx
    walk_at "ret"
    obtain ⟨r, hr1, hr2⟩ := R.wf.tabAt h0 h1
    have hjl : j < r.length := by
      have := (List.getElem?_eq_some_iff.mp hj).1
      rw [tl_len] at this
      omega
    refine ev_ixT (ev_ixT (j := s.toNat) (d := eRT r) (by walk_at "ev") (by walk_at "ev") (by omega) (at_map hr1)) (ev_sidx (by walk_at "ev") (by walk_at "ev") R.lok.nd hj) rfl (at_map (R.wf.wayIs hr1 hjl))
theorem ok_live_way (Bm : Bl mg) (T : Txt K CR CC) (O_Rw_way : OkM P w K mg base 1 CR "way" ["self", "state", "letter"] (sp_Rw_way K CR CC)) (F : DefF K mg "live_way" s_live_way ["rewriter", "live", "state", "letter"]) : OkF P w K mg base 2 "live_way" ["rewriter", "live", "state", "letter"] (sp_live_way K CR CC) := by
  refine okF_of F sc_live_way (fun vs H Q E h => ?_) (fun f cdv Ar outer s H vs Q E hr h => ?_)
  · obtain ⟨A, p, L, P, v, ns, s, j, c, rfl, _⟩ := h
    rfl
  · obtain ⟨A0, p, L, P, v, ns, s, j, c, rfl, hx, R, hv, h0, h1, hj, k⟩ := h
    have hu := hu_of hr
    refine ⟨_, (pss_cons (ps_set (i := 4) sc_live_way.nd rfl (Or.inl rfl) (pe_D O_Rw_way (hr.mono (by decide)) (pv 0) (pa_cons (pv 2) (pa_cons (pv 3) pa_nil))))
      (pss_one (ps_ret (pe_ifExp (PW.pt (pw_and (pt_cmpR notN_R (pv 4) pe_non (nomark _)) (pw_and1 (pt_cmpR (in_K K hr) (pe_ix (ix_K K) (pv 4) pe_int (fun _ _ => rfl)) (pv 1) (by rfl))))) (pv 4) pe_non)))), ?_⟩
    have S0 : Tot (fun _ => False) A0 H A0 H := .refl hx
    refine s_asg (K := K) S0 (ev_way (CC := CC) R (by walk_at "ref") (by walk_at "ev") (by walk_at "ev") h0 h1 hj) fun z A1 B1 s1 S1 pz => ?_
    walk_at "ret"
    cases hw : wayAt P s j with
    | none =>
      rw [hw] at pz
      replace pz : Dp K A1 z .none := pz
      exact ev_if (b := false) (et_and (a := false) (b := false) (by walk_at "et") fun z => nomatch z) (fun z => nomatch z) fun _ => by walk_at "ev"
    | some tx =>
      obtain ⟨t, x⟩ := tx
      rw [hw] at pz
      replace pz : Dp K A1 z (.tuple [.int (t : Nat), .str x]) := pz
      have e0 : stops (some (t, x)) ns = decide ((t : Int) ∈ ns) := rfl
      rw [e0]
      refine ev_if (b := decide ((t : Int) ∈ ns)) (et_and (a := true) (b := decide ((t : Int) ∈ ns)) (by walk_at "et") fun _ => et_test (ev_inL (neg := false) (by walk_at "ev") (by walk_at "ev"))) (fun hb => ?_) fun hb => ?_
      · rw [if_pos hb]
        show EvD K _ _ _ (.tuple [.int (t : Nat), .str x])
        walk_at "ev"
      · rw [if_neg (by rw [hb]; decide)]
        show EvD K _ _ _ .none
        walk_at "ev"
end
-- W3
def sp_are_gone (K : PySem.W.Frag) (CR CC : Addr) : Sp := fun vs H Q _ => ∃ (A : Hp) (p : Addr) (L : Str) (P : Rw) (v : V) (ns : List Int), vs = [.ref p, v] ∧ Ex A H ∧ RwAt K CR A p L P ∧ Dp K A v (.tuple (ns.map .int)) ∧ Ret K A H Q (.bool (goneOK P ns))
/-- one item refutes -/
theorem all_false {α : Type} {f : α → Bool} {xs : List α} {i : Nat} {a : α} (h : xs[i]? = some a) (hf : f a = false) : xs.all f = false := by
  rw [List.all_eq_false]
  exact ⟨a, List.mem_of_getElem? h, by rw [hf]; decide⟩
theorem all_take {α : Type} {f : α → Bool} {xs : List α} {i : Nat} {a : α} (h : xs[i]? = some a) (h1 : (xs.take i).all f = true) (hf : f a = true) : (xs.take (i + 1)).all f = true := by
  rw [List.take_add_one, h, List.all_append, h1]
  simp [hf]
/-- the pieces of goneOne -/
theorem gone_state {P : Rw} {L : Str} (w : Wf L P) {S : List Int} {s : Int} : goneOne P S s = (!((!(decide (0 ≤ s) && decide (s < (P.fin.length : Int)))) || !isN (eS (finAt P s))) && ((P.tab[s.toNat]?).getD []).all fun w => stops w S) := by
  unfold goneOne
  by_cases h : 0 ≤ s ∧ s < (P.fin.length : Int)
  · have e := w.finAt h.1 h.2
    rw [e]
    cases finAt P s <;> simp [h.1, h.2, eS, isN]
  · have e : (decide (0 ≤ s) && decide (s < (P.fin.length : Int))) = false := by
      rw [Bool.and_eq_false_iff]
      by_cases h0 : 0 ≤ s
      · exact .inr (decide_eq_false fun z => h ⟨h0, z⟩)
      · exact .inl (decide_eq_false h0)
    rw [e]
    simp
section
variable {P : Program} {w : World} {K : PySem.W.Frag} {mg : Str → Option Value} {base : Heap} {CR CC : Addr}
theorem ev_all_map {α : Type} {te : TE} {σ : L2.St} {A : Hp} {xs : List α} {f : α → Bool} (h : EvD K te σ A (.list (xs.map fun a => .bool (f a)))) : EvD K (tCB (rAll K) (tCons te tNil)) σ A (.bool (xs.all f)) := by
  have e : xs.map (fun a => PyData.bool (f a)) = (xs.map f).map PyData.bool := by rw [List.map_map]; rfl
  rw [e] at h
  refine ev_is (ev_all h) ?_
  rw [List.all_map]
  rfl
theorem ev_any_map {α : Type} {te : TE} {σ : L2.St} {A : Hp} {xs : List α} {f : α → Bool} (h : EvD K te σ A (.list (xs.map fun a => .bool (f a)))) : EvD K (tCB (rAny K) (tCons te tNil)) σ A (.bool (xs.any f)) := by
  have e : xs.map (fun a => PyData.bool (f a)) = (xs.map f).map PyData.bool := by rw [List.map_map]; rfl
  rw [e] at h
  refine ev_is (ev_any h) ?_
  rw [List.any_map]
  rfl
theorem ok_are_gone (Bm : Bl mg) (T : Txt K CR CC)  (F : DefF K mg "are_gone" s_are_gone ["rewriter", "states"]) : OkF P w K mg base 1 "are_gone" ["rewriter", "states"] (sp_are_gone K CR CC) := by
  refine okF_of F sc_are_gone (fun vs H Q E h => ?_) (fun f cdv Ar outer s H vs Q E hr h => ?_)
  · obtain ⟨A, p, L, P, v, ns, rfl, _⟩ := h
    rfl
  · obtain ⟨A0, p, L, P, v, ns, rfl, hx, R, hv, k⟩ := h
    have hu := hu_of hr
    refine ⟨_, (pss_cons (ps_for PassesOwn.never rfl (tup_K K (pv 1)) (pg_name (i := 2) sc_are_gone.nd rfl (by first | exact Or.inl rfl | exact Or.inr rfl))
       (pss_cons (ps_if (PW.pt (pw_or (pt_not (pt_chain op_le op_lt pe_int (pv 2) (b_len K rfl Bm.m_len (pa_cons (fld_K K (pv 0)) pa_nil)))) (pw_or1 (pt_cmpR notN_R (pe_ix (ix_K K) (fld_K K (pv 0)) (pv 2) (fun _ _ => rfl)) pe_non (nomark _))))) (pss_one (ps_ret pe_bl)) pss_nil)
        (pss_one (ps_if (pt_not (pt_val (b_all K rfl rfl Bm.m_all (pa_cons (pe_lc (own := [("way", 3)]) rfl sc_are_gone.nd (tup_K K (pe_ix (ix_K K) (fld_K K (pv 0)) (pv 2) (fun _ _ => rfl))) (blkOk_by (N := N_are_gone) (sc := defScope s_are_gone) (by decide +kernel)) (fun _ _ _ _ _ => (pg_name (i := 3) sc_are_gone.nd rfl (by first | exact Or.inl rfl | exact Or.inr rfl))) (fun _ _ _ _ _ => pts_nil) (fun _ _ _ _ _ => (pe_or (pe_cmpR isN_R (pv 3) pe_non (nomark _)) (pe_one (pe_cmpR (in_K K hr) (pe_ix (ix_K K) (pv 3) pe_int (fun _ _ => rfl)) (pv 1) (by rfl)))))) pa_nil)))) (pss_one (ps_ret pe_bl)) pss_nil))))
      (pss_one (ps_ret pe_bl))), ?_⟩
    have S0 : Tot (fun _ => False) A0 H A0 H := .refl hx
    refine st_for (K := K) (xs := ns) (enc := .int) (src_tup (by walk_at "ev")) hx fun A1 B1 s1 => ⟨fun i σ A B => ∃ z, σ = [some (.ref p), some v, z, none] ∧ Tot (fun _ => False) A0 H A B ∧ (ns.take i).all (goneOne P ns) = true, ⟨_, rfl, S0.go s1, rfl⟩, ?_, ?_⟩
    · rintro i s x σ' A B A2 B2 hi hA hB ⟨z, rfl, S, hall⟩ s2 px
      have S2 := S.go s2
      have ex := dp_int px
      subst ex
      have hE : Ex A0 A2 := (s1.kn.trans hA).trans s2.kn
      replace R := R.mono hE
      replace hv := dp_mono hE hv
      refine s_if (K := K) (b := (!(decide (0 ≤ s) && decide (s < (P.fin.length : Int)))) || !isN (eS (finAt P s))) S2 (et_or (et_not (et_test ?_)) fun hb => et_test ?_) (fun hb A3 B3 s3 S3 => ?_) (fun hb A3 B3 s3 S3 => ?_)
      · refine ev_chain (p := fun i j => decide (i ≤ j)) (q := fun i j => decide (i < j)) (by walk_at "ev") (by walk_at "ev") fun _ => ev_is (ev_len (by walk_at "ev") rfl) ?_
        rw [List.length_map]
      · simp only [Bool.not_eq_false', Bool.and_eq_true, decide_eq_true_eq] at hb
        exact ev_is1 (ev_ixT (j := s.toNat) (by walk_at "ev") (by walk_at "ev") (by omega) (at_map (R.wf.finAt hb.1 hb.2))) (by walk_at "ev") rfl
      · walk_at "ret"
        refine ev_is (d := .bool false) (by walk_at "ev") ?_
        have : goneOne P ns s = false := by rw [gone_state R.wf, hb]; rfl
        show PyData.bool false = .bool (ns.all (goneOne P ns))
        rw [all_false hi this]
      · simp only [Bool.or_eq_false_iff, Bool.not_eq_false', Bool.and_eq_true, decide_eq_true_eq] at hb
        obtain ⟨⟨h0, h1⟩, hN⟩ := hb
        obtain ⟨r, hr1, hr2⟩ := R.wf.tabAt h0 h1
        have hlr := R.lok.two
        have hg : goneOne P ns s = r.all fun w => stops w ns := by
          rw [gone_state R.wf, hN, hr1]
          simp [h0, h1]
        walk_at "nx"
        refine s_if (K := K) (b := !(r.all fun w => stops w ns)) S3 ?_ (fun hb A4 B4 s4 S4 => ?_) (fun hb A4 B4 s4 S4 => ?_)
        · refine et_not (et_B (ev_all_map ?_))
          refine ev_lc0 r eW (fun w => .bool (stops w ns)) (src_tup ?_) (by omega) fun w hw x A4 B4 e4 f4 p4 => ⟨_, g_name, rfl, ?_⟩
          exact ev_ixT (j := s.toNat) (d := eRT r) (by walk_at "ev") (by walk_at "ev") (by omega) (at_map hr1)
          cases w with
          | none =>
            replace p4 : Dp K A4 x .none := p4
            exact ev_orV (a := true) (b := false) (by walk_at "ev") fun z => nomatch z
          | some tx =>
            obtain ⟨t, y⟩ := tx
            replace p4 : Dp K A4 x (.tuple [.int (t : Nat), .str y]) := p4
            have hv4 := dp_mono (s3.kn.trans e4) hv
            exact ev_orV (a := false) (b := decide ((t : Int) ∈ ns)) (by walk_at "ev") fun _ => ev_inT (neg := false) (by walk_at "ev") (by walk_at "ev")
        · walk_at "ret"
          refine ev_is (d := .bool false) (by walk_at "ev") ?_
          have : goneOne P ns s = false := by rw [hg]; simpa using hb
          show PyData.bool false = .bool (ns.all (goneOne P ns))
          rw [all_false hi this]
        · exact ⟨A4, (hA.trans s2.kn).trans (s3.kn.trans s4.kn), S4.le, _, rfl, S4, all_take hi hall (by rw [hg]; simpa using hb)⟩
    · rintro σ' A B hA hB ⟨z, rfl, S, hall⟩
      walk_at "ret"
      rw [List.take_length] at hall
      refine ev_is (d := .bool true) (by walk_at "ev") ?_
      show PyData.bool true = .bool (ns.all (goneOne P ns))
      rw [hall]
end
-- W4
def sp_l_are_gone (K : PySem.W.Frag) (CR CC : Addr) : Sp := fun vs H Q _ => ∃ (A : Hp) (L : Str) (P : Rw) (u v : V) (ns : List Int), vs = [u, v] ∧ Ex A H ∧ LOk L ∧ Wf L P ∧ Dp K A u (eParts P) ∧ Dp K A v (.tuple (ns.map .int)) ∧ Ret K A H Q (.bool (goneOK P ns))
def sp_l_owed (K : PySem.W.Frag) (CR CC : Addr) : Sp := fun vs H Q _ => ∃ (A : Hp) (x y : Str), vs = [.str x, .str y] ∧ Ex A H ∧ x.length ≤ 1000 ∧ y.length ≤ 1000 ∧ Ret K A H Q (.tuple [.str (ow x y).1, .str (ow x y).2])
section
variable {P : Program} {w : World} {K : PySem.W.Frag} {mg : Str → Option Value} {base : Heap} {CR CC : Addr}
section
variable {σ : L2.St} {A : Hp} {ta tb tS tx ty : TE}
/-- way is None or way[0] in S -/
theorem ev_stops {w : Way} {S : List Int} (ha : EvD K ta σ A (eW w)) (hS : EvD K tS σ A (.tuple (S.map .int))) : EvD K (tOrV (tOp rIs0 ta (tC .non)) (tOp (rInA K false) (tOp (rIx K) ta (tC (.int 0))) tS)) σ A (.bool (stops w S)) := by
  cases w with
  | none => exact ev_orV (a := true) (b := false) (ev_is0 ha (by walk_at "ev") rfl) fun z => nomatch z
  | some tx =>
    obtain ⟨t, y⟩ := tx
    exact ev_orV (a := false) (b := decide ((t : Int) ∈ S)) (ev_is0 ha (by walk_at "ev") rfl) fun _ => ev_inT (neg := false) (ev_ixT (ds := [.int (t : Nat), .str y]) (j := 0) ha (by walk_at "ev") rfl rfl) hS
/-- the test of the two ends -/
theorem et_ends {f g : Option Str} {a b : Str} (ha : EvD K ta σ A (eS f)) (hb : EvD K tb σ A (eS g)) (hx : EvD K tx σ A (.str a)) (hy : EvD K ty σ A (.str b)) (l1 : ∀ z, f = some z → a.length + z.length ≤ 1000000) (l2 : ∀ z, g = some z → b.length + z.length ≤ 1000000) :
    EvT K (tOr (tTest (tOp (rNeA K) (tOp rIs0 ta (tC .non)) (tOp rIs0 tb (tC .non)))) (tAnd (tTest (tOp rIs1 ta (tC .non))) (tTest (tOp (rNeA K) (tOp (rPlus K) tx ta) (tOp (rPlus K) ty tb))))) σ A (!endsOK f g a b) := by
  cases f with
  | none =>
    cases g with
    | none => exact et_or (a := false) (b := false) (et_test (ev_neS (ev_is0 ha (by walk_at "ev") rfl) (ev_is0 hb (by walk_at "ev") rfl) rfl)) fun _ => et_and (a := false) (b := false) (et_test (ev_is1 ha (by walk_at "ev") rfl)) fun z => nomatch z
    | some z => exact et_or (a := true) (b := false) (et_test (ev_neS (ev_is0 ha (by walk_at "ev") rfl) (ev_is0 hb (by walk_at "ev") rfl) rfl)) fun z => nomatch z
  | some y =>
    cases g with
    | none => exact et_or (a := true) (b := false) (et_test (ev_neS (ev_is0 ha (by walk_at "ev") rfl) (ev_is0 hb (by walk_at "ev") rfl) rfl)) fun z => nomatch z
    | some z => exact et_or (a := false) (b := !decide (a ++ y = b ++ z)) (et_test (ev_neS (ev_is0 ha (by walk_at "ev") rfl) (ev_is0 hb (by walk_at "ev") rfl) rfl)) fun _ => et_and (a := true) (b := !decide (a ++ y = b ++ z)) (et_test (ev_is1 ha (by walk_at "ev") rfl)) fun _ => et_test (ev_neS (ev_addS hx ha (l1 y rfl)) (ev_addS hy hb (l2 z rfl)) rfl)
end
theorem ok_l_are_gone (Bm : Bl mg) (T : Txt K CR CC)  (F : DefF K mg "_law_are_gone" s_l_are_gone ["_law_parts", "_law_states"]) : OkF P w K mg base 1 "_law_are_gone" ["_law_parts", "_law_states"] (sp_l_are_gone K CR CC) := by
  refine okF_of F sc_l_are_gone (fun vs H Q E h => ?_) (fun f cdv Ar outer s H vs Q E hr h => ?_)
  · obtain ⟨A, L, P, u, v, ns, rfl, _⟩ := h
    rfl
  · obtain ⟨A0, L, P, u, v, ns, rfl, hx, lok, wf, hu0, hv, k⟩ := h
    have hu := hu_of hr
    refine ⟨_, (pss_cons (ps_for PassesOwn.never rfl (tup_K K (pv 1)) (pg_name (i := 2) sc_l_are_gone.nd rfl (by first | exact Or.inl rfl | exact Or.inr rfl))
       (pss_cons (ps_if (PW.pt (pw_or (pt_not (pt_chain op_le op_lt pe_int (pv 2) (b_len K rfl Bm.m_len (pa_cons (pe_ix (ix_K K) (pv 0) pe_int (fun _ _ => rfl)) pa_nil)))) (pw_or1 (pt_cmpR notN_R (pe_ix (ix_K K) (pe_ix (ix_K K) (pv 0) pe_int (fun _ _ => rfl)) (pv 2) (fun _ _ => rfl)) pe_non (nomark _))))) (pss_one (ps_ret pe_bl)) pss_nil)
        (pss_one (ps_for PassesOwn.never rfl (list_K K (pe_ix (ix_K K) (pe_ix (ix_K K) (pv 0) pe_int (fun _ _ => rfl)) (pv 2) (fun _ _ => rfl))) (pg_name (i := 3) sc_l_are_gone.nd rfl (by first | exact Or.inl rfl | exact Or.inr rfl))
         (pss_one (ps_if (PW.pt (pw_and (pt_cmpR notN_R (pv 3) pe_non (nomark _)) (pw_and1 (pt_cmpR (ni_K K hr) (pe_ix (ix_K K) (pv 3) pe_int (fun _ _ => rfl)) (pv 1) (by rfl))))) (pss_one (ps_ret pe_bl)) pss_nil))))))
      (pss_one (ps_ret pe_bl))), ?_⟩
    have S0 : Tot (fun _ => False) A0 H A0 H := .refl hx
    replace hu0 : Dp K A0 u (.tuple [.str P.lead, .list (P.fin.map eS), .list (P.tab.map eRL)]) := hu0
    refine st_for (K := K) (xs := ns) (enc := .int) (src_tup (by walk_at "ev")) hx fun A1 B1 s1 => ⟨fun i σ A B => ∃ z y, σ = [some u, some v, z, y] ∧ Tot (fun _ => False) A0 H A B ∧ (ns.take i).all (goneOne P ns) = true, ⟨_, _, rfl, S0.go s1, rfl⟩, ?_, ?_⟩
    · rintro i s x σ' A B A2 B2 hi hA hB ⟨z, y0, rfl, S, hall⟩ s2 px
      have S2 := S.go s2
      have ex := dp_int px
      subst ex
      have hE : Ex A0 A2 := (s1.kn.trans hA).trans s2.kn
      replace hu0 := dp_mono hE hu0
      replace hv := dp_mono hE hv
      refine s_if (K := K) (b := (!(decide (0 ≤ s) && decide (s < (P.fin.length : Int)))) || !isN (eS (finAt P s))) S2 (et_or (et_not (et_test ?_)) fun hb => et_test ?_) (fun hb A3 B3 s3 S3 => ?_) (fun hb A3 B3 s3 S3 => ?_)
      · refine ev_chain (p := fun i j => decide (i ≤ j)) (q := fun i j => decide (i < j)) (by walk_at "ev") (by walk_at "ev") fun _ => ev_is (ev_len (d := .list (P.fin.map eS)) (by walk_at "ev") rfl) ?_
        rw [List.length_map]
      · simp only [Bool.not_eq_false', Bool.and_eq_true, decide_eq_true_eq] at hb
        exact ev_is1 (ev_ixL (ds := P.fin.map eS) (j := s.toNat) (by walk_at "ev") (by walk_at "ev") (by omega) (at_map (wf.finAt hb.1 hb.2))) (by walk_at "ev") rfl
      · walk_at "ret"
        refine ev_is (d := .bool false) (by walk_at "ev") ?_
        have : goneOne P ns s = false := by rw [gone_state wf, hb]; rfl
        show PyData.bool false = .bool (ns.all (goneOne P ns))
        rw [all_false hi this]
      · simp only [Bool.or_eq_false_iff, Bool.not_eq_false', Bool.and_eq_true, decide_eq_true_eq] at hb
        obtain ⟨⟨h0, h1⟩, hN⟩ := hb
        obtain ⟨r, hr1, hr2⟩ := wf.tabAt h0 h1
        have hg : goneOne P ns s = r.all fun w => stops w ns := by
          rw [gone_state wf, hN, hr1]
          simp [h0, h1]
        walk_at "nx"
        refine st_for (K := K) (xs := r) (enc := eW) (src_list ?_) S3.le fun A4 B4 s4 => ⟨fun j σ A B => ∃ y, σ = [some u, some v, some (.int s), y] ∧ Tot (fun _ => False) A0 H A B ∧ (r.take j).all (fun w => stops w ns) = true, ⟨_, rfl, S3.go s4, rfl⟩, ?_, ?_⟩
        · exact ev_ixL (j := s.toNat) (d := eRL r) (ds := P.tab.map eRL) (by walk_at "ev") (by walk_at "ev") (by omega) (at_map hr1)
        · rintro j w x σ' A' B' A5 B5 hj hA' hB' ⟨y, rfl, S', hall'⟩ s5 px
          have S5 := S'.go s5
          have hE5 : Ex A2 A5 := ((s3.kn.trans s4.kn).trans hA').trans s5.kn
          replace hv := dp_mono hE5 hv
          dsimp only [gName]
          refine s_if (K := K) (b := !stops w ns) S5 ?_ (fun hb A6 B6 s6 S6 => ?_) (fun hb A6 B6 s6 S6 => ?_)
          · cases w with
            | none =>
              replace px : Dp K A5 x .none := px
              exact et_and (a := false) (b := false) (by walk_at "et") fun z => nomatch z
            | some tx =>
              obtain ⟨t, y⟩ := tx
              replace px : Dp K A5 x (.tuple [.int (t : Nat), .str y]) := px
              exact et_and (a := true) (b := !decide ((t : Int) ∈ ns)) (by walk_at "et") fun _ => et_test (ev_inT (neg := true) (by walk_at "ev") (by walk_at "ev"))
          · walk_at "ret"
            refine ev_is (d := .bool false) (by walk_at "ev") ?_
            have : goneOne P ns s = false := by
              rw [hg]
              exact all_false hj (by simpa using hb)
            show PyData.bool false = .bool (ns.all (goneOne P ns))
            rw [all_false hi this]
          · exact ⟨A6, (hA'.trans s5.kn).trans s6.kn, S6.le, _, rfl, S6, all_take hj hall' (by simpa using hb)⟩
        · rintro σ' A' B' hA' hB' ⟨y, rfl, S', hall'⟩
          rw [List.take_length] at hall'
          exact ⟨A', ((((hA.trans s2.kn).trans s3.kn).trans s4.kn).trans hA'), hB', _, _, rfl, S', all_take hi hall (by rw [hg]; exact hall')⟩
    · rintro σ' A B hA hB ⟨z, y, rfl, S, hall⟩
      walk_at "ret"
      rw [List.take_length] at hall
      refine ev_is (d := .bool true) (by walk_at "ev") ?_
      show PyData.bool true = .bool (ns.all (goneOne P ns))
      rw [hall]
theorem ok_l_owed (Bm : Bl mg) (T : Txt K CR CC)  (F : DefF K mg "_law_owed" s_l_owed ["_law_one", "_law_other"]) : OkF P w K mg base 1 "_law_owed" ["_law_one", "_law_other"] (sp_l_owed K CR CC) := by
  refine okF_of F sc_l_owed (fun vs H Q E h => ?_) (fun f cdv Ar outer s H vs Q E hr h => ?_)
  · obtain ⟨A, x, y, rfl, _⟩ := h
    rfl
  · obtain ⟨A0, x, y, rfl, hx, lx, ly, k⟩ := h
    have hu := hu_of hr
    refine ⟨_, (pss_cons (ps_set (i := 2) sc_l_owed.nd rfl (Or.inl rfl) pe_int)
      (pss_cons (ps_for PassesOwn.never rfl (pi_range1 rfl Bm.m_range (pa_cons (b_min2 K rfl rfl Bm.m_min (pa_cons (b_len K rfl Bm.m_len (pa_cons (pv 0) pa_nil)) (pa_cons (b_len K rfl Bm.m_len (pa_cons (pv 1) pa_nil)) pa_nil))) pa_nil)) (pg_name (i := 3) sc_l_owed.nd rfl (by first | exact Or.inl rfl | exact Or.inr rfl))
       (pss_one (ps_if (PW.pt (pw_and (pt_cmpR (eq_K K hr) (pv 2) (pv 3) (nomark _)) (pw_and1 (pt_cmpR (eq_K K hr) (pe_ix (ix_K K) (pv 0) (pv 3) (fun _ _ => rfl)) (pe_ix (ix_K K) (pv 1) (pv 3) (fun _ _ => rfl)) (nomark _))))) (pss_one (ps_set (i := 2) sc_l_owed.nd rfl (Or.inl rfl) (pe_op (plus_K K) (pv 3) pe_int))) pss_nil)))
      (pss_one (ps_ret (pe_tup (pa_cons (pe_slice (sl_K K) (pv 0) (po_some (pv 2)) po_none) (pa_cons (pe_slice (sl_K K) (pv 1) (po_some (pv 2)) po_none) pa_nil))))))), ?_⟩
    have S0 : Tot (fun _ => False) A0 H A0 H := .refl hx
    have hle := cpl_le (tl x) (tl y)
    rw [tl_len, tl_len] at hle
    refine s_asg (K := K) S0 (by walk_at "ev") fun v A1 B1 s1 S1 p1 => ?_
    have ev := dp_int p1
    subst ev
    walk_at "nx"
    refine st_for (K := K) (xs := List.range (min x.length y.length)) (enc := fun i => .int (i : Nat)) (src_range1 ?_ (by omega)) S1.le fun A2 B2 s2 => ⟨fun i σ A B => ∃ z, σ = [some (.str x), some (.str y), some (.int (min i (cpl (tl x) (tl y)) : Nat)), z] ∧ Tot (fun _ => False) A0 H A B, ⟨_, by simp; rfl, S1.go s2⟩, ?_, ?_⟩
    · refine ev_is (by walk_at "ev") (d := .int (if (y.length : Int) < x.length then (y.length : Int) else x.length)) ?_
      congr 1
      split <;> omega
    · rintro i a u σ' A B A3 B3 hi hA hB ⟨z, rfl, S⟩ s3 px
      have ea : a = i := by
        have h1 := (List.getElem?_eq_some_iff.mp hi)
        obtain ⟨h1, h2⟩ := h1
        rw [List.getElem_range] at h2
        exact h2.symm
      have him : i < min x.length y.length := by
        have h1 := (List.getElem?_eq_some_iff.mp hi).1
        rw [List.length_range] at h1
        exact h1
      subst ea
      have eu := dp_int px
      subst eu
      have S3 := S.go s3
      dsimp only [gName]
      refine s_if (K := K) (b := decide (a < cpl (tl x) (tl y))) S3 ?_ (fun hb A4 B4 s4 S4 => ?_) (fun hb A4 B4 s4 S4 => ?_)
      · by_cases hc : a ≤ cpl (tl x) (tl y)
        · have hiff := cpl_lt (tl x) (tl y) a hc
          have h1 : a < (tl x).length := by rw [tl_len]; omega
          have h2 : a < (tl y).length := by rw [tl_len]; omega
          have g1 : atI (tl x) (a : Int) = some (tl x)[a] := atI_nat (List.getElem?_eq_getElem h1)
          have g2 : atI (tl y) (a : Int) = some (tl y)[a] := atI_nat (List.getElem?_eq_getElem h2)
          refine et_is (et_and (a := true) (et_is (by walk_at "et") ?_) fun _ => et_test (ev_eqS (ev_ixS (by walk_at "ev") (by walk_at "ev") (by omega) g1) (ev_ixS (by walk_at "ev") (by walk_at "ev") (by omega) g2) rfl)) ?_
          · rw [Nat.min_eq_left hc]
            simp
          · rw [Bool.eq_iff_iff]
            simp only [Bool.true_and, decide_eq_true_eq]
            rw [hiff, List.getElem?_eq_getElem h1, List.getElem?_eq_getElem h2]
            constructor
            · intro h2
              exact ⟨_, rfl, by simpa using h2.symm⟩
            · rintro ⟨c, h1, h2⟩
              cases h1
              simpa using h2.symm
        · refine et_is (et_and (a := false) (b := false) (et_is (by walk_at "et") ?_) (fun z => nomatch z)) ?_
          · refine decide_eq_false ?_
            omega
          · symm
            exact decide_eq_false (by omega)
      · have hlt := of_decide_eq_true hb
        refine s_asg (K := K) S4 (by walk_at "ev") fun v A5 B5 s5 S5 p5 => ?_
        have ev := dp_int p5
        subst ev
        refine ⟨A5, ((hA.trans s3.kn).trans s4.kn).trans s5.kn, S5.le, some (.int (a : Int)), ?_, S5⟩
        have e : ((min (a + 1) (cpl (tl x) (tl y)) : Nat) : Int) = (a : Int) + 1 := by omega
        rw [e]
        rfl
      · have hge := of_decide_eq_false hb
        refine ⟨A4, (hA.trans s3.kn).trans s4.kn, S4.le, some (.int (a : Int)), ?_, S4⟩
        have e : min (a + 1) (cpl (tl x) (tl y)) = min a (cpl (tl x) (tl y)) := by omega
        rw [e]
        rfl
    · rintro σ' A B hA hB ⟨z, rfl, S⟩
      rw [List.length_range, Nat.min_eq_right (by omega)]
      walk_at "ret"
      unfold ow
      rw [← cutS_from, ← cutS_from]
      dsimp only
      walk_at "ev"
end
-- W5
def sp_row_holds (K : PySem.W.Frag) (CR CC : Addr) : Sp := fun vs H Q _ => ∃ (A : Hp) (L : Str) (F S : Rw) (p q : Addr) (u v : V) (pa : Pap) (r : PRow), vs = [.ref p, .ref q, u, v] ∧ Ex A H ∧ RwAt K CR A p L F ∧ RwAt K CR A q L S ∧ Dp K A u (eP pa) ∧ Dp K A v (eR r) ∧ POk pa ∧ Mo r.2.2.1 ∧ Mo r.2.2.2 ∧ Ret K A H Q (.bool (rowOK F S L.length pa r))
def sp_l_is_row (K : PySem.W.Frag) (CR CC : Addr) : Sp := fun vs H Q _ => ∃ (A : Hp) (L : Str) (F S : Rw) (p q u v : V) (pa : Pap) (r : PRow), vs = [p, q, u, v] ∧ Ex A H ∧ LOk L ∧ Wf L F ∧ Wf L S ∧ Dp K A p (eParts F) ∧ Dp K A q (eParts S) ∧ Dp K A u (eP pa) ∧ Dp K A v (eR r) ∧ POk pa ∧ Mo r.2.2.1 ∧ Mo r.2.2.2 ∧ Ret K A H Q (.bool (rowOK F S L.length pa r))
theorem range_at {n i : Nat} (h : i < n) : (List.range n)[i]? = some i := List.getElem?_range h
theorem range_all {i : Nat} {f : Nat → Bool} (h1 : (List.range i).all f = true) (hf : f i = true) : (List.range (i + 1)).all f = true := by
  rw [List.range_succ, List.all_append, h1]
  simp [hf]
section
variable {P : Program} {w : World} {K : PySem.W.Frag} {mg : Str → Option Value} {base : Heap} {CR CC : Addr}
section
variable {σ : L2.St} {A : Hp} {ta tb tS tx ty te tr : TE}
theorem da_three {vs : List V} {x y z : PyData} (h : DpAll K A vs [x, y, z]) : ∃ u v w, vs = [u, v, w] ∧ Dp K A u x ∧ Dp K A v y ∧ Dp K A w z := by
  cases h with | cons a b => cases b with | cons c e => cases e with | cons f g => cases g; exact ⟨_, _, _, rfl, a, c, f⟩
theorem da_four {vs : List V} {x y z t : PyData} (h : DpAll K A vs [x, y, z, t]) : ∃ u v w s, vs = [u, v, w, s] ∧ Dp K A u x ∧ Dp K A v y ∧ Dp K A w z ∧ Dp K A s t := by
  cases h with | cons a b => obtain ⟨u, v, w, rfl, p, q, r⟩ := da_three b; exact ⟨_, _, _, _, rfl, a, p, q, r⟩
/-- a call of owed (either of them) -/
theorem ev_owed {sp : Sp} {x y : Str} (hsp : ∀ vs H Q, (∃ (A : Hp) (x y : Str), vs = [.str x, .str y] ∧ Ex A H ∧ x.length ≤ 1000 ∧ y.length ≤ 1000 ∧ Ret K A H Q (.tuple [.str (ow x y).1, .str (ow x y).2])) → sp vs H Q E0)
    (hx : EvD K tx σ A (.str x)) (hy : EvD K ty σ A (.str y)) (lx : x.length ≤ 1000) (ly : y.length ≤ 1000) : EvD K (tCall sp [] E0 (tCons tx (tCons ty tNil))) σ A (.tuple [.str (ow x y).1, .str (ow x y).2]) :=
  ev_call (R := fun A vs => DpAll K A vs [.str x, .str y]) (ead_cons hx (ead_cons hy ead_nil)) fun A B vs e f p Q k => hsp vs B Q (by
    obtain ⟨u, v, rfl, p, q⟩ := da_two p
    exact ⟨A, x, y, by rw [dp_str p, dp_str q], f, lx, ly, k⟩)
theorem ow_mo {x y : Str} (hx : Mo x) (hy : Mo y) : Mo (ow x y).1 ∧ Mo (ow x y).2 := ⟨hx.drop _, hy.drop _⟩
theorem ow_mo2 {x y : Str} (hx : x.length ≤ 150) (cx : ∀ c ∈ tl x, c < 1000) : ∀ c ∈ tl (ow x y).1, c < 1000 := fun c hc => cx c (List.mem_of_mem_drop hc)
end
end
/-- a longer string of plain signs -/
theorem mo_long {x y : Str} (hx : Mo x) (hy : Mo y) : ∀ c ∈ tl (x ++ y), c < 1000 := fun c hc => by
  rw [tl_app] at hc
  rcases List.mem_append.mp hc with hc | hc
  · exact hx.small c hc
  · exact hy.small c hc
theorem shaped_row {a b : Int} {x y : Str} (hx : ∀ c ∈ tl x, c < 1000) (hy : ∀ c ∈ tl y, c < 1000) : SeqAt.shaped (eR (a, b, x, y)) = true := by
  have h1 := eR_depth (a, b, x, y)
  show ((eR (a, b, x, y)).canLay0 && decide ((eR (a, b, x, y)).depth ≤ 64)) = true
  rw [Bool.and_eq_true]
  refine ⟨?_, decide_eq_true (by omega)⟩
  have h1 := strOk_mo hx
  have h2 := strOk_mo hy
  simp only [eR, PyData.canLay0, PyData.canLayAll0, h1, h2]
  rfl
section
variable {P : Program} {w : World} {K : PySem.W.Frag} {mg : Str → Option Value} {base : Heap} {CR CC : Addr}
section
variable {σ : L2.St} {A : Hp} {ta tb tS tx ty te tr tw tv : TE}
/-- not stops and (way[0], other_way[0]) + owed(ahead + way[1], behind + other_way[1]) not in rows -/
theorem et_next {sp : Sp} {pa : Pap} {a b : Str} {wf ws : Way} {bs : Bool} (po : POk pa) (hsp : ∀ vs H Q, (∃ (A : Hp) (x y : Str), vs = [.str x, .str y] ∧ Ex A H ∧ x.length ≤ 1000 ∧ y.length ≤ 1000 ∧ Ret K A H Q (.tuple [.str (ow x y).1, .str (ow x y).2])) → sp vs H Q E0)
    (hs : EvD K tS σ A (.bool bs)) (hw : EvD K tw σ A (eW wf)) (hv : EvD K tv σ A (eW ws)) (ha : EvD K ta σ A (.str a)) (hb : EvD K tb σ A (.str b)) (hr : EvD K tr σ A (.tuple (pa.rows.map eR)))
    (ma : Mo a) (mb : Mo b) (he : bs = stops wf pa.gone) (he2 : bs = stops ws pa.far) (m1 : ∀ t x, wf = some (t, x) → Mo x) (m2 : ∀ t x, ws = some (t, x) → Mo x) :
    EvT K (tAnd (tNot (tB tS)) (tTest (tOp (rInA K true) (tOp (rPlus K) (tTup (tCons (tOp (rIx K) tw (tC (.int 0))) (tCons (tOp (rIx K) tv (tC (.int 0))) tNil))) (tCall sp [] E0 (tCons (tOp (rPlus K) ta (tOp (rIx K) tw (tC (.int 1)))) (tCons (tOp (rPlus K) tb (tOp (rIx K) tv (tC (.int 1)))) tNil)))) tr))) σ A
      (!(bs || decide (nextRow wf ws a b ∈ pa.rows))) := by
  cases bs with
  | true => exact et_and (a := false) (b := false) (et_not (et_B hs)) fun z => nomatch z
  | false =>
    cases wf with
    | none => cases he
    | some tx =>
      cases ws with
      | none => cases he2
      | some uy =>
        obtain ⟨t, x⟩ := tx
        obtain ⟨u, y⟩ := uy
        have q1 := m1 t x rfl
        have q2 := m2 u y rfl
        have l1 := ma.len
        have l2 := mb.len
        have l3 := q1.len
        have l4 := q2.len
        refine et_and (a := true) (b := !decide (nextRow (some (t, x)) (some (u, y)) a b ∈ pa.rows)) (et_not (et_B hs)) fun _ => et_test ?_
        have hw0 : EvD K (tOp (rIx K) tw (tC (.int 0))) σ A (.int (t : Nat)) := ev_ixT (ds := [.int (t : Nat), .str x]) (j := 0) hw (by walk_at "ev") rfl rfl
        have hw1 : EvD K (tOp (rIx K) tw (tC (.int 1))) σ A (.str x) := ev_ixT (ds := [.int (t : Nat), .str x]) (j := 1) hw (by walk_at "ev") rfl rfl
        have hv0 : EvD K (tOp (rIx K) tv (tC (.int 0))) σ A (.int (u : Nat)) := ev_ixT (ds := [.int (u : Nat), .str y]) (j := 0) hv (by walk_at "ev") rfl rfl
        have hv1 : EvD K (tOp (rIx K) tv (tC (.int 1))) σ A (.str y) := ev_ixT (ds := [.int (u : Nat), .str y]) (j := 1) hv (by walk_at "ev") rfl rfl
        have h := ev_inD (neg := true) (x := eR (nextRow (some (t, x)) (some (u, y)) a b)) (ev_addT (xs := [.int (t : Nat), .int (u : Nat)]) (ev_tup (ead_cons hw0 (ead_cons hv0 ead_nil)) (Nat.le_of_ble_eq_true rfl)) (ev_owed hsp (ev_addS ha hw1 (by omega)) (ev_addS hb hv1 (by omega)) (by rw [len_app]; omega) (by rw [len_app]; omega)) (Nat.le_of_ble_eq_true rfl)) hr
          (shaped_row (fun c hc => mo_long ma q1 c (List.mem_of_mem_drop hc)) (fun c hc => mo_long mb q2 c (List.mem_of_mem_drop hc))) (eRs_shaped po.a)
        refine ev_is h ?_
        rw [any_eR]
        rfl
end
end
-- W6
section
variable {P : Program} {w : World} {K : PySem.W.Frag} {mg : Str → Option Value} {base : Heap} {CR CC : Addr}
theorem ok_row_holds (Bm : Bl mg) (T : Txt K CR CC) (O_Rw_way : OkM P w K mg base 1 CR "way" ["self", "state", "letter"] (sp_Rw_way K CR CC)) (O_owed : OkF P w K mg base 2 "owed" ["first", "second"] (sp_owed K CR CC)) (F : DefF K mg "row_holds" s_row_holds ["first", "second", "paper", "row"]) : OkF P w K mg base 3 "row_holds" ["first", "second", "paper", "row"] (sp_row_holds K CR CC) := by
  refine okF_of F sc_row_holds (fun vs H Q E h => ?_) (fun f cdv Ar outer s H vs Q E hr h => ?_)
  · obtain ⟨A, L, F, S, p, q, u, v, pa, r, rfl, _⟩ := h
    rfl
  · obtain ⟨A0, L, F, S, p, q, u, v, pa, r, rfl, hx, RF, RS, hu0, hv0, po, ma, mb, k⟩ := h
    obtain ⟨one, other, a, b⟩ := r
    have hu := hu_of hr
    refine ⟨_, (pss_cons (ps_asg (pv 2) (gtup_K K (n := 3) rfl (pgs_cons (pg_name (i := 4) sc_row_holds.nd rfl (by first | exact Or.inl rfl | exact Or.inr rfl)) (pgs_cons (pg_name (i := 5) sc_row_holds.nd rfl (by first | exact Or.inl rfl | exact Or.inr rfl)) (pgs_cons (pg_name (i := 6) sc_row_holds.nd rfl (by first | exact Or.inl rfl | exact Or.inr rfl)) pgs_nil)))))
      (pss_cons (ps_asg (pv 3) (gtup_K K (n := 4) rfl (pgs_cons (pg_name (i := 7) sc_row_holds.nd rfl (by first | exact Or.inl rfl | exact Or.inr rfl)) (pgs_cons (pg_name (i := 8) sc_row_holds.nd rfl (by first | exact Or.inl rfl | exact Or.inr rfl)) (pgs_cons (pg_name (i := 9) sc_row_holds.nd rfl (by first | exact Or.inl rfl | exact Or.inr rfl)) (pgs_cons (pg_name (i := 10) sc_row_holds.nd rfl (by first | exact Or.inl rfl | exact Or.inr rfl)) pgs_nil))))))
      (pss_cons (ps_if (PW.pt (pw_or (pt_not (pt_chain op_le op_lt pe_int (pv 7) (b_len K rfl Bm.m_len (pa_cons (fld_K K (pv 0)) pa_nil)))) (pw_or1 (pt_not (pt_chain op_le op_lt pe_int (pv 8) (b_len K rfl Bm.m_len (pa_cons (fld_K K (pv 1)) pa_nil))))))) (pss_one (ps_ret pe_bl)) pss_nil)
      (pss_cons (ps_set (i := 11) sc_row_holds.nd rfl (Or.inl rfl) (pe_tup (pa_cons (pe_ix (ix_K K) (fld_K K (pv 0)) (pv 7) (fun _ _ => rfl)) (pa_cons (pe_ix (ix_K K) (fld_K K (pv 1)) (pv 8) (fun _ _ => rfl)) pa_nil))))
      (pss_cons (ps_if (PW.pt (pw_or (pt_cmpR (ne_K K hr) (pe_cmpR isN_R (pe_ix (ix_K K) (pv 11) pe_int (fun _ _ => rfl)) pe_non (nomark _)) (pe_cmpR isN_R (pe_ix (ix_K K) (pv 11) pe_int (fun _ _ => rfl)) pe_non (nomark _)) (nomark _)) (pw_or1 (PW.pt (pw_and (pt_cmpR notN_R (pe_ix (ix_K K) (pv 11) pe_int (fun _ _ => rfl)) pe_non (nomark _)) (pw_and1 (pt_cmpR (ne_K K hr) (pe_op (plus_K K) (pv 9) (pe_ix (ix_K K) (pv 11) pe_int (fun _ _ => rfl))) (pe_op (plus_K K) (pv 10) (pe_ix (ix_K K) (pv 11) pe_int (fun _ _ => rfl))) (nomark _)))))))) (pss_one (ps_ret pe_bl)) pss_nil)
      (pss_cons (ps_for PassesOwn.never rfl (pi_str (fld_K K (pv 0))) (pg_name (i := 12) sc_row_holds.nd rfl (by first | exact Or.inl rfl | exact Or.inr rfl))
       (pss_cons (ps_set (i := 13) sc_row_holds.nd rfl (Or.inl rfl) (pe_D O_Rw_way (hr.mono (by decide)) (pv 0) (pa_cons (pv 7) (pa_cons (pv 12) pa_nil))))
        (pss_cons (ps_set (i := 14) sc_row_holds.nd rfl (Or.inl rfl) (pe_D O_Rw_way (hr.mono (by decide)) (pv 1) (pa_cons (pv 8) (pa_cons (pv 12) pa_nil))))
        (pss_cons (ps_set (i := 15) sc_row_holds.nd rfl (Or.inl rfl) (pe_or (pe_cmpR isN_R (pv 13) pe_non (nomark _)) (pe_one (pe_cmpR (in_K K hr) (pe_ix (ix_K K) (pv 13) pe_int (fun _ _ => rfl)) (pv 4) (by rfl)))))
        (pss_cons (ps_if (pt_cmpR (ne_K K hr) (pv 15) (pe_or (pe_cmpR isN_R (pv 14) pe_non (nomark _)) (pe_one (pe_cmpR (in_K K hr) (pe_ix (ix_K K) (pv 14) pe_int (fun _ _ => rfl)) (pv 5) (by rfl)))) (nomark _)) (pss_one (ps_ret pe_bl)) pss_nil)
        (pss_one (ps_if (PW.pt (pw_and (pt_not (pt_val (pv 15))) (pw_and1 (pt_cmpR (ni_K K hr) (pe_op (plus_K K) (pe_tup (pa_cons (pe_ix (ix_K K) (pv 13) pe_int (fun _ _ => rfl)) (pa_cons (pe_ix (ix_K K) (pv 14) pe_int (fun _ _ => rfl)) pa_nil))) (pe_F O_owed (hr.mono (by decide)) rfl (pa_cons (pe_op (plus_K K) (pv 9) (pe_ix (ix_K K) (pv 13) pe_int (fun _ _ => rfl))) (pa_cons (pe_op (plus_K K) (pv 10) (pe_ix (ix_K K) (pv 14) pe_int (fun _ _ => rfl))) pa_nil)))) (pv 6) (by rfl))))) (pss_one (ps_ret pe_bl)) pss_nil)))))))
      (pss_one (ps_ret pe_bl)))))))), ?_⟩
    have S0 : Tot (fun _ => False) A0 H A0 H := .refl hx
    have ma : Mo a := ma
    have mb : Mo b := mb
    have la := ma.len
    have lb := mb.len
    replace hu0 : Dp K A0 u (.tuple [.tuple (pa.gone.map .int), .tuple (pa.far.map .int), .tuple (pa.rows.map eR)]) := hu0
    replace hv0 : Dp K A0 v (.tuple [.int one, .int other, .str a, .str b]) := hv0
    refine s_unp (K := K) S0 (ds := [.tuple (pa.gone.map .int), .tuple (pa.far.map .int), .tuple (pa.rows.map eR)]) (by walk_at "ev") rfl fun vs A1 B1 s1 S1 p1 => ?_
    obtain ⟨g, f, rws, rfl, pg, pf, pr⟩ := da_three p1
    refine ⟨g, [f, rws], rfl, f, [rws], rfl, rws, [], rfl, rfl, ?_⟩
    walk_at "nx"
    refine s_unp (K := K) S1 (ds := [.int one, .int other, .str a, .str b]) (by walk_at "ev") rfl fun vs A2 B2 s2 S2 p2 => ?_
    obtain ⟨o1, o2, o3, o4, rfl, q1, q2, q3, q4⟩ := da_four p2
    refine ⟨o1, [o2, o3, o4], rfl, o2, [o3, o4], rfl, o3, [o4], rfl, o4, [], rfl, rfl, ?_⟩
    have e1 := dp_int q1
    have e2 := dp_int q2
    have e3 := dp_str q3
    have e4 := dp_str q4
    subst e1 e2 e3 e4
    walk_at "nx"
    refine s_if (K := K) (b := (!(decide (0 ≤ one) && decide (one < (F.fin.length : Int)))) || !(decide (0 ≤ other) && decide (other < (S.fin.length : Int)))) S2 (et_or (et_not (et_test ?_)) fun hb => et_not (et_test ?_)) (fun hb A3 B3 s3 S3 => ?_) (fun hb A3 B3 s3 S3 => ?_)
    · refine ev_chain (p := fun i j => decide (i ≤ j)) (q := fun i j => decide (i < j)) (by walk_at "ev") (by walk_at "ev") fun _ => ev_is (ev_len (by walk_at "ev") rfl) ?_
      rw [List.length_map]
    · refine ev_chain (p := fun i j => decide (i ≤ j)) (q := fun i j => decide (i < j)) (by walk_at "ev") (by walk_at "ev") fun _ => ev_is (ev_len (by walk_at "ev") rfl) ?_
      rw [List.length_map]
    · walk_at "ret"
      refine ev_is (d := .bool false) (by walk_at "ev") ?_
      show PyData.bool false = .bool (rowOK F S L.length pa (one, other, a, b))
      have hb : (!(decide (0 ≤ one) && decide (one < (F.fin.length : Int))) || !(decide (0 ≤ other) && decide (other < (S.fin.length : Int)))) = true := hb
      unfold rowOK
      rw [← Bool.not_and] at hb
      rw [Bool.not_eq_true'] at hb
      rw [hb]
      rfl
    have hb : (!(decide (0 ≤ one) && decide (one < (F.fin.length : Int))) || !(decide (0 ≤ other) && decide (other < (S.fin.length : Int)))) = false := hb
    rw [← Bool.not_and, Bool.not_eq_false'] at hb
    have hbb := hb
    simp only [Bool.and_eq_true, decide_eq_true_eq] at hb
    obtain ⟨⟨h1, h2⟩, h3, h4⟩ := hb
    walk_at "nx"
    refine s_asg (K := K) (d := .tuple [eS (finAt F one), eS (finAt S other)]) S3 ?_ fun v3 A4 B4 s4 S4 p4 => ?_
    · refine ev_tup (ead_cons ?_ (ead_cons ?_ ead_nil)) (Nat.le_of_ble_eq_true rfl)
      · exact ev_ixT (j := one.toNat) (by walk_at "ev") (by walk_at "ev") (by omega) (at_map (RF.wf.finAt h1 h2))
      · exact ev_ixT (j := other.toNat) (by walk_at "ev") (by walk_at "ev") (by omega) (at_map (RS.wf.finAt h3 h4))
    walk_at "nx"
    refine s_if (K := K) (b := !endsOK (finAt F one) (finAt S other) a b) S4 (et_ends (by walk_at "ev") (by walk_at "ev") (by walk_at "ev") (by walk_at "ev") (fun z hz => ?_) (fun z hz => ?_)) (fun hb A5 B5 s5 S5 => ?_) (fun hb A5 B5 s5 S5 => ?_)
    · have := (RF.wf.finTx hz).len
      omega
    · have := (RS.wf.finTx hz).len
      omega
    · walk_at "ret"
      refine ev_is (d := .bool false) (by walk_at "ev") ?_
      show PyData.bool false = .bool (rowOK F S L.length pa (one, other, a, b))
      have hb : endsOK (finAt F one) (finAt S other) a b = false := by simpa using hb
      unfold rowOK
      rw [hbb, hb]
      rfl
    have hb : endsOK (finAt F one) (finAt S other) a b = true := by simpa using hb
    have hrow : rowOK F S L.length pa (one, other, a, b) = (List.range L.length).all fun k => letterOK pa a b (wayAt F one k) (wayAt S other k) := by
      unfold rowOK
      rw [hbb, hb]
      rfl
    walk_at "nx"
    refine st_for (K := K) (xs := tl L) (enc := fun c => .str ⟨#[c]⟩) (src_str (by walk_at "ev")) S5.le fun A6 B6 s6 => ⟨fun i σ A B => ∃ z1 z2 z3 z4, σ = [some (.ref p), some (.ref q), some u, some v, some g, some f, some rws, some (.int one), some (.int other), some (.str a), some (.str b), some v3, z1, z2, z3, z4] ∧ Tot (fun _ => False) A0 H A B ∧ ((List.range i).all fun k => letterOK pa a b (wayAt F one k) (wayAt S other k)) = true, ⟨_, _, _, _, rfl, S5.go s6, rfl⟩, ?_, ?_⟩
    · rintro i c x σ' A B A7 B7 hi hA hB ⟨z1, z2, z3, z4, rfl, S6, hall⟩ s7 px
      have S7 := S6.go s7
      have ex := dp_str px
      subst ex
      have hE : Ex A5 A7 := (s6.kn.trans hA).trans s7.kn
      have hE1 : Ex A1 A7 := (((s2.kn.trans s3.kn).trans s4.kn).trans s5.kn).trans hE
      have hE0 : Ex A0 A7 := s1.kn.trans hE1
      replace RF := RF.mono hE0
      replace RS := RS.mono hE0
      replace pg := dp_mono hE1 pg
      replace pf := dp_mono hE1 pf
      replace pr := dp_mono hE1 pr
      have hil : i < L.length := by
        have := (List.getElem?_eq_some_iff.mp hi).1
        rw [tl_len] at this
        exact this
      dsimp only [gName]
      refine s_asg (K := K) S7 (ev_way (CC := CC) RF (by walk_at "ref") (by walk_at "ev") (by walk_at "ev") h1 h2 hi) fun w1 A8 B8 s8 S8 p8 => ?_
      walk_at "nx"
      refine s_asg (K := K) S8 (ev_way (CC := CC) (RS.mono s8.kn) (by walk_at "ref") (by walk_at "ev") (by walk_at "ev") h3 h4 hi) fun w2 A9 B9 s9 S9 p9 => ?_
      walk_at "nx"
      refine s_asg (K := K) S9 (ev_stops (w := wayAt F one i) (S := pa.gone) (by walk_at "ev") (by walk_at "ev")) fun w3 A10 B10 s10 S10 p10 => ?_
      walk_at "nx"
      refine s_if (K := K) (b := !decide (stops (wayAt F one i) pa.gone = stops (wayAt S other i) pa.far)) S10 (et_test (ev_neS (by walk_at "ev") (ev_stops (w := wayAt S other i) (S := pa.far) (by walk_at "ev") (by walk_at "ev")) rfl)) (fun hb A11 B11 s11 S11 => ?_) (fun hb A11 B11 s11 S11 => ?_)
      · walk_at "ret"
        refine ev_is (d := .bool false) (by walk_at "ev") ?_
        rw [hrow, all_false (range_at hil)]
        simp at hb
        unfold letterOK
        simp [hb]
      have hst : stops (wayAt F one i) pa.gone = stops (wayAt S other i) pa.far := by simpa using hb
      walk_at "nx"
      refine s_if (K := K) (b := !(stops (wayAt F one i) pa.gone || decide (nextRow (wayAt F one i) (wayAt S other i) a b ∈ pa.rows))) S11 ?_ (fun hb A12 B12 s12 S12 => ?_) (fun hb A12 B12 s12 S12 => ?_)
      · exact et_next (sp := sp_owed K CR CC) po (fun vs H Q h => h) (by walk_at "ev") (by walk_at "ev") (by walk_at "ev") (by walk_at "ev") (by walk_at "ev") (by walk_at "ev") ma mb rfl hst (fun t x ht => (RF.wf.wayTx ht).2.mo RF.lok) (fun t x ht => (RS.wf.wayTx ht).2.mo RS.lok)
      · walk_at "ret"
        refine ev_is (d := .bool false) (by walk_at "ev") ?_
        rw [hrow, all_false (range_at hil)]
        unfold letterOK
        rw [Bool.not_eq_true'] at hb
        rw [hb, Bool.and_false]
      · refine ⟨A12, ((((((hA.trans s7.kn).trans s8.kn).trans s9.kn).trans s10.kn).trans s11.kn).trans s12.kn), S12.le, _, _, _, _, rfl, S12, range_all hall ?_⟩
        unfold letterOK
        rw [Bool.not_eq_false'] at hb
        rw [hb, hst]
        simp
    · rintro σ' A B hA hB ⟨z1, z2, z3, z4, rfl, S6, hall⟩
      walk_at "ret"
      rw [tl_len] at hall
      refine ev_is (d := .bool true) (by walk_at "ev") ?_
      rw [hrow, hall]
end
-- W7
section
variable {P : Program} {w : World} {K : PySem.W.Frag} {mg : Str → Option Value} {base : Heap} {CR CC : Addr}
theorem ok_l_is_row (Bm : Bl mg) (T : Txt K CR CC) (O_l_owed : OkF P w K mg base 1 "_law_owed" ["_law_one", "_law_other"] (sp_l_owed K CR CC)) (F : DefF K mg "_law_is_row" s_l_is_row ["_law_first", "_law_second", "_law_paper", "_law_row_here"]) : OkF P w K mg base 2 "_law_is_row" ["_law_first", "_law_second", "_law_paper", "_law_row_here"] (sp_l_is_row K CR CC) := by
  refine okF_of F sc_l_is_row (fun vs H Q E h => ?_) (fun f cdv Ar outer s H vs Q E hr h => ?_)
  · obtain ⟨A, L, F, S, p, q, u, v, pa, r, rfl, _⟩ := h
    rfl
  · obtain ⟨A0, L, F, S, p, q, u, v, pa, r, rfl, hx, lok, WF, WS, hf0, hs0, hu0, hv0, po, ma, mb, k⟩ := h
    obtain ⟨one, other, a, b⟩ := r
    have hu := hu_of hr
    refine ⟨_, (pss_cons (ps_asg (pv 3) (gtup_K K (n := 4) rfl (pgs_cons (pg_name (i := 4) sc_l_is_row.nd rfl (by first | exact Or.inl rfl | exact Or.inr rfl)) (pgs_cons (pg_name (i := 5) sc_l_is_row.nd rfl (by first | exact Or.inl rfl | exact Or.inr rfl)) (pgs_cons (pg_name (i := 6) sc_l_is_row.nd rfl (by first | exact Or.inl rfl | exact Or.inr rfl)) (pgs_cons (pg_name (i := 7) sc_l_is_row.nd rfl (by first | exact Or.inl rfl | exact Or.inr rfl)) pgs_nil))))))
      (pss_cons (ps_if (PW.pt (pw_or (pt_not (pt_chain op_le op_lt pe_int (pv 4) (b_len K rfl Bm.m_len (pa_cons (pe_ix (ix_K K) (pv 0) pe_int (fun _ _ => rfl)) pa_nil)))) (pw_or1 (pt_not (pt_chain op_le op_lt pe_int (pv 5) (b_len K rfl Bm.m_len (pa_cons (pe_ix (ix_K K) (pv 1) pe_int (fun _ _ => rfl)) pa_nil))))))) (pss_one (ps_ret pe_bl)) pss_nil)
      (pss_cons (ps_set (i := 8) sc_l_is_row.nd rfl (Or.inl rfl) (pe_lst (pa_cons (pe_ix (ix_K K) (pe_ix (ix_K K) (pv 0) pe_int (fun _ _ => rfl)) (pv 4) (fun _ _ => rfl)) (pa_cons (pe_ix (ix_K K) (pe_ix (ix_K K) (pv 1) pe_int (fun _ _ => rfl)) (pv 5) (fun _ _ => rfl)) pa_nil))))
      (pss_cons (ps_if (PW.pt (pw_or (pt_cmpR (ne_K K hr) (pe_cmpR isN_R (pe_ix (ix_K K) (pv 8) pe_int (fun _ _ => rfl)) pe_non (nomark _)) (pe_cmpR isN_R (pe_ix (ix_K K) (pv 8) pe_int (fun _ _ => rfl)) pe_non (nomark _)) (nomark _)) (pw_or1 (PW.pt (pw_and (pt_cmpR notN_R (pe_ix (ix_K K) (pv 8) pe_int (fun _ _ => rfl)) pe_non (nomark _)) (pw_and1 (pt_cmpR (ne_K K hr) (pe_op (plus_K K) (pv 6) (pe_ix (ix_K K) (pv 8) pe_int (fun _ _ => rfl))) (pe_op (plus_K K) (pv 7) (pe_ix (ix_K K) (pv 8) pe_int (fun _ _ => rfl))) (nomark _)))))))) (pss_one (ps_ret pe_bl)) pss_nil)
      (pss_cons (ps_for PassesOwn.never rfl (pi_range1 rfl Bm.m_range (pa_cons (b_len K rfl Bm.m_len (pa_cons (pe_ix (ix_K K) (pe_ix (ix_K K) (pv 0) pe_int (fun _ _ => rfl)) (pv 4) (fun _ _ => rfl)) pa_nil)) pa_nil)) (pg_name (i := 9) sc_l_is_row.nd rfl (by first | exact Or.inl rfl | exact Or.inr rfl))
       (pss_cons (ps_set (i := 10) sc_l_is_row.nd rfl (Or.inl rfl) (pe_ix (ix_K K) (pe_ix (ix_K K) (pe_ix (ix_K K) (pv 0) pe_int (fun _ _ => rfl)) (pv 4) (fun _ _ => rfl)) (pv 9) (fun _ _ => rfl)))
        (pss_cons (ps_set (i := 11) sc_l_is_row.nd rfl (Or.inl rfl) (pe_ix (ix_K K) (pe_ix (ix_K K) (pe_ix (ix_K K) (pv 1) pe_int (fun _ _ => rfl)) (pv 5) (fun _ _ => rfl)) (pv 9) (fun _ _ => rfl)))
        (pss_cons (ps_set (i := 12) sc_l_is_row.nd rfl (Or.inl rfl) (pe_or (pe_cmpR isN_R (pv 10) pe_non (nomark _)) (pe_one (pe_cmpR (in_K K hr) (pe_ix (ix_K K) (pv 10) pe_int (fun _ _ => rfl)) (pe_ix (ix_K K) (pv 2) pe_int (fun _ _ => rfl)) (by rfl)))))
        (pss_cons (ps_if (pt_cmpR (ne_K K hr) (pv 12) (pe_or (pe_cmpR isN_R (pv 11) pe_non (nomark _)) (pe_one (pe_cmpR (in_K K hr) (pe_ix (ix_K K) (pv 11) pe_int (fun _ _ => rfl)) (pe_ix (ix_K K) (pv 2) pe_int (fun _ _ => rfl)) (by rfl)))) (nomark _)) (pss_one (ps_ret pe_bl)) pss_nil)
        (pss_one (ps_if (PW.pt (pw_and (pt_not (pt_val (pv 12))) (pw_and1 (pt_cmpR (ni_K K hr) (pe_op (plus_K K) (pe_tup (pa_cons (pe_ix (ix_K K) (pv 10) pe_int (fun _ _ => rfl)) (pa_cons (pe_ix (ix_K K) (pv 11) pe_int (fun _ _ => rfl)) pa_nil))) (pe_F O_l_owed (hr.mono (by decide)) rfl (pa_cons (pe_op (plus_K K) (pv 6) (pe_ix (ix_K K) (pv 10) pe_int (fun _ _ => rfl))) (pa_cons (pe_op (plus_K K) (pv 7) (pe_ix (ix_K K) (pv 11) pe_int (fun _ _ => rfl))) pa_nil)))) (pe_ix (ix_K K) (pv 2) pe_int (fun _ _ => rfl)) (by rfl))))) (pss_one (ps_ret pe_bl)) pss_nil)))))))
      (pss_one (ps_ret pe_bl))))))), ?_⟩
    have S0 : Tot (fun _ => False) A0 H A0 H := .refl hx
    have ma : Mo a := ma
    have mb : Mo b := mb
    have la := ma.len
    have lb := mb.len
    replace hf0 : Dp K A0 p (.tuple [.str F.lead, .list (F.fin.map eS), .list (F.tab.map eRL)]) := hf0
    replace hs0 : Dp K A0 q (.tuple [.str S.lead, .list (S.fin.map eS), .list (S.tab.map eRL)]) := hs0
    replace hu0 : Dp K A0 u (.tuple [.tuple (pa.gone.map .int), .tuple (pa.far.map .int), .tuple (pa.rows.map eR)]) := hu0
    replace hv0 : Dp K A0 v (.tuple [.int one, .int other, .str a, .str b]) := hv0
    refine s_unp (K := K) S0 (ds := [.int one, .int other, .str a, .str b]) (by walk_at "ev") rfl fun vs A2 B2 s2 S2 p2 => ?_
    obtain ⟨o1, o2, o3, o4, rfl, q1, q2, q3, q4⟩ := da_four p2
    refine ⟨o1, [o2, o3, o4], rfl, o2, [o3, o4], rfl, o3, [o4], rfl, o4, [], rfl, rfl, ?_⟩
    have e1 := dp_int q1
    have e2 := dp_int q2
    have e3 := dp_str q3
    have e4 := dp_str q4
    subst e1 e2 e3 e4
    walk_at "nx"
    refine s_if (K := K) (b := (!(decide (0 ≤ one) && decide (one < (F.fin.length : Int)))) || !(decide (0 ≤ other) && decide (other < (S.fin.length : Int)))) S2 (et_or (et_not (et_test ?_)) fun hb => et_not (et_test ?_)) (fun hb A3 B3 s3 S3 => ?_) (fun hb A3 B3 s3 S3 => ?_)
    · refine ev_chain (p := fun i j => decide (i ≤ j)) (q := fun i j => decide (i < j)) (by walk_at "ev") (by walk_at "ev") fun _ => ev_is (ev_len (d := .list (F.fin.map eS)) (by walk_at "ev") rfl) ?_
      rw [List.length_map]
    · refine ev_chain (p := fun i j => decide (i ≤ j)) (q := fun i j => decide (i < j)) (by walk_at "ev") (by walk_at "ev") fun _ => ev_is (ev_len (d := .list (S.fin.map eS)) (by walk_at "ev") rfl) ?_
      rw [List.length_map]
    · walk_at "ret"
      refine ev_is (d := .bool false) (by walk_at "ev") ?_
      show PyData.bool false = .bool (rowOK F S L.length pa (one, other, a, b))
      have hb : (!(decide (0 ≤ one) && decide (one < (F.fin.length : Int))) || !(decide (0 ≤ other) && decide (other < (S.fin.length : Int)))) = true := hb
      unfold rowOK
      rw [← Bool.not_and] at hb
      rw [Bool.not_eq_true'] at hb
      rw [hb]
      rfl
    have hb : (!(decide (0 ≤ one) && decide (one < (F.fin.length : Int))) || !(decide (0 ≤ other) && decide (other < (S.fin.length : Int)))) = false := hb
    rw [← Bool.not_and, Bool.not_eq_false'] at hb
    have hbb := hb
    simp only [Bool.and_eq_true, decide_eq_true_eq] at hb
    obtain ⟨⟨h1, h2⟩, h3, h4⟩ := hb
    obtain ⟨r1, hr1, hl1⟩ := WF.tabAt h1 h2
    obtain ⟨r2, hr2, hl2⟩ := WS.tabAt h3 h4
    have l2 := lok.two
    walk_at "nx"
    refine s_asg (K := K) (d := .list [eS (finAt F one), eS (finAt S other)]) S3 ?_ fun v3 A4 B4 s4 S4 p4 => ?_
    · refine ev_lst (ead_cons ?_ (ead_cons ?_ ead_nil)) (Nat.le_of_ble_eq_true rfl)
      · exact ev_ixL (ds := F.fin.map eS) (j := one.toNat) (by walk_at "ev") (by walk_at "ev") (by omega) (at_map (WF.finAt h1 h2))
      · exact ev_ixL (ds := S.fin.map eS) (j := other.toNat) (by walk_at "ev") (by walk_at "ev") (by omega) (at_map (WS.finAt h3 h4))
    walk_at "nx"
    refine s_if (K := K) (b := !endsOK (finAt F one) (finAt S other) a b) S4 (et_ends ?_ ?_ (by walk_at "ev") (by walk_at "ev") (fun z hz => ?_) (fun z hz => ?_)) (fun hb A5 B5 s5 S5 => ?_) (fun hb A5 B5 s5 S5 => ?_)
    · exact ev_ixL (ds := [eS (finAt F one), eS (finAt S other)]) (j := 0) (by walk_at "ev") (by walk_at "ev") rfl rfl
    · exact ev_ixL (ds := [eS (finAt F one), eS (finAt S other)]) (j := 1) (by walk_at "ev") (by walk_at "ev") rfl rfl
    · have := (WF.finTx hz).len
      omega
    · have := (WS.finTx hz).len
      omega
    · walk_at "ret"
      refine ev_is (d := .bool false) (by walk_at "ev") ?_
      show PyData.bool false = .bool (rowOK F S L.length pa (one, other, a, b))
      have hb : endsOK (finAt F one) (finAt S other) a b = false := by simpa using hb
      unfold rowOK
      rw [hbb, hb]
      rfl
    have hb : endsOK (finAt F one) (finAt S other) a b = true := by simpa using hb
    have hrow : rowOK F S L.length pa (one, other, a, b) = (List.range L.length).all fun k => letterOK pa a b (wayAt F one k) (wayAt S other k) := by
      unfold rowOK
      rw [hbb, hb]
      rfl
    walk_at "nx"
    refine st_for (K := K) (xs := List.range L.length) (enc := fun i => .int (i : Nat)) (src_range1 ?_ (by omega)) S5.le fun A6 B6 s6 => ⟨fun i σ A B => ∃ z1 z2 z3 z4, σ = [some p, some q, some u, some v, some (.int one), some (.int other), some (.str a), some (.str b), some v3, z1, z2, z3, z4] ∧ Tot (fun _ => False) A0 H A B ∧ ((List.range i).all fun k => letterOK pa a b (wayAt F one k) (wayAt S other k)) = true, ⟨_, _, _, _, rfl, S5.go s6, rfl⟩, ?_, ?_⟩
    · refine ev_is (ev_len (d := eRL r1) (ev_ixL (ds := F.tab.map eRL) (j := one.toNat) (by walk_at "ev") (by walk_at "ev") (by omega) (at_map hr1)) rfl) ?_
      rw [List.length_map, hl1]
    · rintro i c x σ' A B A7 B7 hi hA hB ⟨z1, z2, z3, z4, rfl, S6, hall⟩ s7 px
      have S7 := S6.go s7
      have hil : i < L.length := by
        have := (List.getElem?_eq_some_iff.mp hi).1
        rw [List.length_range] at this
        exact this
      have ec : c = i := by
        rw [range_at hil] at hi
        exact (Option.some.inj hi).symm
      subst ec
      have ex := dp_int px
      subst ex
      have hE : Ex A5 A7 := (s6.kn.trans hA).trans s7.kn
      have hE0 : Ex A0 A7 := (((s2.kn.trans s3.kn).trans s4.kn).trans s5.kn).trans hE
      replace hf0 := dp_mono hE0 hf0
      replace hs0 := dp_mono hE0 hs0
      replace hu0 := dp_mono hE0 hu0
      dsimp only [gName]
      refine s_asg (K := K) (d := eW (wayAt F one c)) S7 ?_ fun w1 A8 B8 s8 S8 p8 => ?_
      · exact ev_ixL (ds := r1.map eW) (j := c) (ev_ixL (ds := F.tab.map eRL) (j := one.toNat) (by walk_at "ev") (by walk_at "ev") (by omega) (at_map hr1)) (by walk_at "ev") rfl (at_map (WF.wayIs hr1 (by omega)))
      walk_at "nx"
      refine s_asg (K := K) (d := eW (wayAt S other c)) S8 ?_ fun w2 A9 B9 s9 S9 p9 => ?_
      · exact ev_ixL (ds := r2.map eW) (j := c) (ev_ixL (ds := S.tab.map eRL) (j := other.toNat) (by walk_at "ev") (by walk_at "ev") (by omega) (at_map hr2)) (by walk_at "ev") rfl (at_map (WS.wayIs hr2 (by omega)))
      walk_at "nx"
      refine s_asg (K := K) S9 (ev_stops (w := wayAt F one c) (S := pa.gone) (by walk_at "ev") (by walk_at "ev")) fun w3 A10 B10 s10 S10 p10 => ?_
      walk_at "nx"
      refine s_if (K := K) (b := !decide (stops (wayAt F one c) pa.gone = stops (wayAt S other c) pa.far)) S10 (et_test (ev_neS (by walk_at "ev") (ev_stops (w := wayAt S other c) (S := pa.far) (by walk_at "ev") (by walk_at "ev")) rfl)) (fun hb A11 B11 s11 S11 => ?_) (fun hb A11 B11 s11 S11 => ?_)
      · walk_at "ret"
        refine ev_is (d := .bool false) (by walk_at "ev") ?_
        rw [hrow, all_false (range_at hil)]
        simp at hb
        unfold letterOK
        simp [hb]
      have hst : stops (wayAt F one c) pa.gone = stops (wayAt S other c) pa.far := by simpa using hb
      walk_at "nx"
      refine s_if (K := K) (b := !(stops (wayAt F one c) pa.gone || decide (nextRow (wayAt F one c) (wayAt S other c) a b ∈ pa.rows))) S11 ?_ (fun hb A12 B12 s12 S12 => ?_) (fun hb A12 B12 s12 S12 => ?_)
      · exact et_next (sp := sp_l_owed K CR CC) po (fun vs H Q h => h) (by walk_at "ev") (by walk_at "ev") (by walk_at "ev") (by walk_at "ev") (by walk_at "ev") (by walk_at "ev") ma mb rfl hst (fun t x ht => (WF.wayTx ht).2.mo lok) (fun t x ht => (WS.wayTx ht).2.mo lok)
      · walk_at "ret"
        refine ev_is (d := .bool false) (by walk_at "ev") ?_
        rw [hrow, all_false (range_at hil)]
        unfold letterOK
        rw [Bool.not_eq_true'] at hb
        rw [hb, Bool.and_false]
      · refine ⟨A12, ((((((hA.trans s7.kn).trans s8.kn).trans s9.kn).trans s10.kn).trans s11.kn).trans s12.kn), S12.le, _, _, _, _, rfl, S12, range_all hall ?_⟩
        unfold letterOK
        rw [Bool.not_eq_false'] at hb
        rw [hb, hst]
        simp
    · rintro σ' A B hA hB ⟨z1, z2, z3, z4, rfl, S6, hall⟩
      walk_at "ret"
      rw [List.length_range] at hall
      refine ev_is (d := .bool true) (by walk_at "ev") ?_
      rw [hrow, hall]
end
-- W8
def sp_judge_same (K : PySem.W.Frag) (CR CC : Addr) : Sp := fun vs H Q _ => ∃ (A : Hp) (L : Str) (F S : Rw) (p q : Addr) (u : V) (pa : Pap), vs = [.ref p, .ref q, u] ∧ Ex A H ∧ RwAt K CR A p L F ∧ RwAt K CR A q L S ∧ Dp K A u (eP pa) ∧ POk pa ∧ Ret K A H Q (.bool (taken F S L.length pa))
def sp_l_taken (K : PySem.W.Frag) (CR CC : Addr) : Sp := fun vs H Q _ => ∃ (A : Hp) (L : Str) (F S : Rw) (p q u : V) (pa : Pap), vs = [p, q, u] ∧ Ex A H ∧ LOk L ∧ Wf L F ∧ Wf L S ∧ Dp K A p (eParts F) ∧ Dp K A q (eParts S) ∧ Dp K A u (eP pa) ∧ POk pa ∧ Ret K A H Q (.bool (taken F S L.length pa))
section
variable {P : Program} {w : World} {K : PySem.W.Frag} {mg : Str → Option Value} {base : Heap} {CR CC : Addr}
theorem eqv_nil (rows : List PRow) (f : PRow → Bool) : PyData.eqv (.list ((rows.filter fun r => !f r).map eR)) (.list []) = rows.all f := by
  cases e : rows.filter fun r => !f r with
  | nil =>
    rw [List.filter_eq_nil_iff] at e
    have : rows.all f = true := by
      rw [List.all_eq_true]
      intro r hr
      have := e r hr
      simpa using this
    rw [this]
    simp [PyData.eqv, PyData.eqvAll]
  | cons a t =>
    have hm : a ∈ rows.filter fun r => !f r := by rw [e]; exact List.mem_cons_self
    rw [List.mem_filter] at hm
    have : rows.all f = false := by
      rw [List.all_eq_false]
      exact ⟨a, hm.1, by simpa using hm.2⟩
    rw [this]
    simp [PyData.eqv, PyData.eqvAll]
section
variable {σ : L2.St} {A : Hp} {ta tb tS tx ty te tr : TE}
/-- (0, 0) + owed(..) not in rows -/
theorem et_top {sp : Sp} {pa : Pap} {a b : Str} (po : POk pa) (hsp : ∀ vs H Q, (∃ (A : Hp) (x y : Str), vs = [.str x, .str y] ∧ Ex A H ∧ x.length ≤ 1000 ∧ y.length ≤ 1000 ∧ Ret K A H Q (.tuple [.str (ow x y).1, .str (ow x y).2])) → sp vs H Q E0)
    (ha : EvD K ta σ A (.str a)) (hb : EvD K tb σ A (.str b)) (hr : EvD K tr σ A (.tuple (pa.rows.map eR))) (ma : Mo a) (mb : Mo b) :
    EvT K (tTest (tOp (rInA K true) (tOp (rPlus K) (tTup (tCons (tC (.int 0)) (tCons (tC (.int 0)) tNil))) (tCall sp [] E0 (tCons ta (tCons tb tNil)))) tr)) σ A (!decide (((0 : Int), (0 : Int), (ow a b).1, (ow a b).2) ∈ pa.rows)) := by
  have l1 := ma.len
  have l2 := mb.len
  refine et_test (ev_is (ev_inD (neg := true) (x := eR ((0 : Int), (0 : Int), (ow a b).1, (ow a b).2)) (ev_addT (xs := [.int 0, .int 0]) (by walk_at "ev") (ev_owed hsp ha hb (by omega) (by omega)) (Nat.le_of_ble_eq_true rfl)) hr (shaped_row (fun c hc => ma.small c (List.mem_of_mem_drop hc)) (fun c hc => mb.small c (List.mem_of_mem_drop hc))) (eRs_shaped po.a)) ?_)
  rw [any_eR]
  rfl
end
theorem taken_a {F S : Rw} {n : Nat} {pa : Pap} (h : (!goneOK F pa.gone || !goneOK S pa.far) = true) : taken F S n pa = false := by
  rw [← Bool.not_and, Bool.not_eq_true'] at h
  unfold taken
  rw [h]
  rfl
theorem taken_b {F S : Rw} {n : Nat} {pa : Pap} (h : (!goneOK F pa.gone || !goneOK S pa.far) = false) (h2 : (decide ((0 : Int) ∈ pa.gone) || decide ((0 : Int) ∈ pa.far)) = true) : taken F S n pa = (decide ((0 : Int) ∈ pa.gone) && decide ((0 : Int) ∈ pa.far)) := by
  rw [← Bool.not_and, Bool.not_eq_false'] at h
  unfold taken
  rw [h, if_pos h2, Bool.true_and]
theorem taken_c {F S : Rw} {n : Nat} {pa : Pap} (h : (!goneOK F pa.gone || !goneOK S pa.far) = false) (h2 : (decide ((0 : Int) ∈ pa.gone) || decide ((0 : Int) ∈ pa.far)) = false) : taken F S n pa = (decide (((0 : Int), (0 : Int), (ow F.lead S.lead).1, (ow F.lead S.lead).2) ∈ pa.rows) && pa.rows.all (rowOK F S n pa)) := by
  rw [← Bool.not_and, Bool.not_eq_false'] at h
  unfold taken
  rw [h, if_neg (by rw [h2]; decide), Bool.true_and]
theorem ok_judge_same (Bm : Bl mg) (T : Txt K CR CC) (O_are_gone : OkF P w K mg base 1 "are_gone" ["rewriter", "states"] (sp_are_gone K CR CC)) (O_owed : OkF P w K mg base 2 "owed" ["first", "second"] (sp_owed K CR CC)) (O_row_holds : OkF P w K mg base 3 "row_holds" ["first", "second", "paper", "row"] (sp_row_holds K CR CC)) (F : DefF K mg "judge_same" s_judge_same ["first", "second", "paper"]) : OkF P w K mg base 4 "judge_same" ["first", "second", "paper"] (sp_judge_same K CR CC) := by
  refine okF_of F sc_judge_same (fun vs H Q E h => ?_) (fun f cdv Ar outer s H vs Q E hr h => ?_)
  · obtain ⟨A, L, F, S, p, q, u, pa, rfl, _⟩ := h
    rfl
  · obtain ⟨A0, L, F, S, p, q, u, pa, rfl, hx, RF, RS, hu0, po, k⟩ := h
    have hu := hu_of hr
    refine ⟨_, (pss_cons (ps_asg (pv 2) (gtup_K K (n := 3) rfl (pgs_cons (pg_name (i := 3) sc_judge_same.nd rfl (by first | exact Or.inl rfl | exact Or.inr rfl)) (pgs_cons (pg_name (i := 4) sc_judge_same.nd rfl (by first | exact Or.inl rfl | exact Or.inr rfl)) (pgs_cons (pg_name (i := 5) sc_judge_same.nd rfl (by first | exact Or.inl rfl | exact Or.inr rfl)) pgs_nil)))))
      (pss_cons (ps_if (PW.pt (pw_or (pt_not (pt_val (pe_F O_are_gone (hr.mono (by decide)) rfl (pa_cons (pv 0) (pa_cons (pv 3) pa_nil))))) (pw_or1 (pt_not (pt_val (pe_F O_are_gone (hr.mono (by decide)) rfl (pa_cons (pv 1) (pa_cons (pv 4) pa_nil)))))))) (pss_one (ps_ret pe_bl)) pss_nil)
      (pss_cons (ps_if (PW.pt (pw_or (pt_cmpR (in_K K hr) pe_int (pv 3) (by rfl)) (pw_or1 (pt_cmpR (in_K K hr) pe_int (pv 4) (by rfl))))) (pss_one (ps_ret (pe_and (pe_cmpR (in_K K hr) pe_int (pv 3) (by rfl)) (pe_one (pe_cmpR (in_K K hr) pe_int (pv 4) (by rfl)))))) pss_nil)
      (pss_cons (ps_if (pt_cmpR (ni_K K hr) (pe_op (plus_K K) (pe_tup (pa_cons pe_int (pa_cons pe_int pa_nil))) (pe_F O_owed (hr.mono (by decide)) rfl (pa_cons (fld_K K (pv 0)) (pa_cons (fld_K K (pv 1)) pa_nil)))) (pv 5) (by rfl)) (pss_one (ps_ret pe_bl)) pss_nil)
      (pss_one (ps_ret (b_all K rfl rfl Bm.m_all (pa_cons (pe_lc (own := [("row", 6)]) rfl sc_judge_same.nd (tup_K K (pv 5)) (blkOk_by (N := N_judge_same) (sc := defScope s_judge_same) (by decide +kernel)) (fun _ _ _ _ _ => (pg_name (i := 6) sc_judge_same.nd rfl (by first | exact Or.inl rfl | exact Or.inr rfl))) (fun _ _ _ _ _ => pts_nil) (fun _ _ _ _ _ => (pe_F O_row_holds (hr.mono (by decide)) rfl (pa_cons (pv 0) (pa_cons (pv 1) (pa_cons (pv 2) (pa_cons (pv 6) pa_nil))))))) pa_nil)))))))), ?_⟩
    have S0 : Tot (fun _ => False) A0 H A0 H := .refl hx
    replace hu0 : Dp K A0 u (.tuple [.tuple (pa.gone.map .int), .tuple (pa.far.map .int), .tuple (pa.rows.map eR)]) := hu0
    refine s_unp (K := K) S0 (ds := [.tuple (pa.gone.map .int), .tuple (pa.far.map .int), .tuple (pa.rows.map eR)]) (by walk_at "ev") rfl fun vs A1 B1 s1 S1 p1 => ?_
    obtain ⟨g, f, rws, rfl, pg, pf, pr⟩ := da_three p1
    refine ⟨g, [f, rws], rfl, f, [rws], rfl, rws, [], rfl, rfl, ?_⟩
    walk_at "nx"
    refine s_if (K := K) (b := !goneOK F pa.gone || !goneOK S pa.far) S1 (et_or (et_not (et_B ?_)) fun hb => et_not (et_B ?_)) (fun hb A3 B3 s3 S3 => ?_) (fun hb A3 B3 s3 S3 => ?_)
    · refine ev_call (R := fun A vs => PsAt A [isV (.ref p), isD K (.tuple (pa.gone.map .int))] vs) (by walk_at "eap") fun A B vs e f pv Q k => ?_
      obtain ⟨x, y, rfl, rfl, py⟩ := ps_two pv
      exact ⟨A, p, L, F, y, pa.gone, rfl, f, RF.mono (s1.kn.trans e), py, k⟩
    · refine ev_call (R := fun A vs => PsAt A [isV (.ref q), isD K (.tuple (pa.far.map .int))] vs) (by walk_at "eap") fun A B vs e f pv Q k => ?_
      obtain ⟨x, y, rfl, rfl, py⟩ := ps_two pv
      exact ⟨A, q, L, S, y, pa.far, rfl, f, RS.mono (s1.kn.trans e), py, k⟩
    · walk_at "ret"
      rw [taken_a hb]
      walk_at "ev"
    walk_at "nx"
    refine s_if (K := K) (b := decide ((0 : Int) ∈ pa.gone) || decide ((0 : Int) ∈ pa.far)) S3 (et_or (et_test (ev_inT (neg := false) (by walk_at "ev") (by walk_at "ev"))) fun _ => et_test (ev_inT (neg := false) (by walk_at "ev") (by walk_at "ev"))) (fun hb2 A4 B4 s4 S4 => ?_) (fun hb2 A4 B4 s4 S4 => ?_)
    · walk_at "ret"
      rw [taken_b hb hb2]
      exact ev_andV (a := decide ((0 : Int) ∈ pa.gone)) (b := decide ((0 : Int) ∈ pa.far)) (ev_inT (neg := false) (by walk_at "ev") (by walk_at "ev")) fun _ => ev_inT (neg := false) (by walk_at "ev") (by walk_at "ev")
    walk_at "nx"
    have m1 := RF.wf.lead.mo RF.lok
    have m2 := RS.wf.lead.mo RS.lok
    refine s_if (K := K) (b := !decide (((0 : Int), (0 : Int), (ow F.lead S.lead).1, (ow F.lead S.lead).2) ∈ pa.rows)) S4 ?_ (fun hb3 A5 B5 s5 S5 => ?_) (fun hb3 A5 B5 s5 S5 => ?_)
    · exact et_top (sp := sp_owed K CR CC) po (fun vs H Q h => h) (by walk_at "ev") (by walk_at "ev") (by walk_at "ev") m1 m2
    · walk_at "ret"
      rw [taken_c hb hb2]
      rw [Bool.not_eq_true'] at hb3
      rw [hb3]
      walk_at "ev"
    walk_at "nx"
    walk_at "ret"
    rw [Bool.not_eq_false'] at hb3
    rw [taken_c hb hb2, hb3, Bool.true_and]
    refine ev_all_map ?_
    refine ev_lc0 pa.rows eR (fun r => .bool (rowOK F S L.length pa r)) (src_tup (by walk_at "ev")) (by have := po.r; omega) fun r hr x A6 B6 e6 f6 p6 => ⟨_, g_name, rfl, ?_⟩
    have hE : Ex A1 A6 := ((s3.kn.trans s4.kn).trans s5.kn).trans e6
    refine ev_call (R := fun A vs => PsAt A [isV (.ref p), isV (.ref q), isD K (eP pa), isD K (eR r)] vs) ?_ fun A B vs e f pv Q k => ?_
    · refine eap_cons (P := isV _) (by walk_at "ref") mon_v (eap_cons (P := isV _) (by walk_at "ref") mon_v (eap_cons (P := isD _ _) (ev_var rfl ?_) mon_d (eap_cons (P := isD _ _) (ev_var rfl p6) mon_d eap_nil)))
      exact dp_mono (s1.kn.trans hE) hu0
    · obtain ⟨x, y, z, t, rfl, rfl, rfl, pz, pt⟩ := ps_four pv
      exact ⟨A, L, F, S, p, q, z, t, pa, r, rfl, f, RF.mono ((s1.kn.trans hE).trans e), RS.mono ((s1.kn.trans hE).trans e), pz, pt, po, (po.a r hr).1, (po.a r hr).2, k⟩
theorem ok_l_taken (Bm : Bl mg) (T : Txt K CR CC) (O_l_are_gone : OkF P w K mg base 1 "_law_are_gone" ["_law_parts", "_law_states"] (sp_l_are_gone K CR CC)) (O_l_owed : OkF P w K mg base 1 "_law_owed" ["_law_one", "_law_other"] (sp_l_owed K CR CC)) (O_l_is_row : OkF P w K mg base 2 "_law_is_row" ["_law_first", "_law_second", "_law_paper", "_law_row_here"] (sp_l_is_row K CR CC)) (F : DefF K mg "_law_taken" s_l_taken ["_law_first", "_law_second", "_law_paper"]) : OkF P w K mg base 3 "_law_taken" ["_law_first", "_law_second", "_law_paper"] (sp_l_taken K CR CC) := by
  refine okF_of F sc_l_taken (fun vs H Q E h => ?_) (fun f cdv Ar outer s H vs Q E hr h => ?_)
  · obtain ⟨A, L, F, S, p, q, u, pa, rfl, _⟩ := h
    rfl
  · obtain ⟨A0, L, F, S, p, q, u, pa, rfl, hx, lok, WF, WS, hf0, hs0, hu0, po, k⟩ := h
    have hu := hu_of hr
    refine ⟨_, (pss_cons (ps_asg (pv 2) (gtup_K K (n := 3) rfl (pgs_cons (pg_name (i := 3) sc_l_taken.nd rfl (by first | exact Or.inl rfl | exact Or.inr rfl)) (pgs_cons (pg_name (i := 4) sc_l_taken.nd rfl (by first | exact Or.inl rfl | exact Or.inr rfl)) (pgs_cons (pg_name (i := 5) sc_l_taken.nd rfl (by first | exact Or.inl rfl | exact Or.inr rfl)) pgs_nil)))))
      (pss_cons (ps_if (PW.pt (pw_or (pt_not (pt_val (pe_F O_l_are_gone (hr.mono (by decide)) rfl (pa_cons (pv 0) (pa_cons (pv 3) pa_nil))))) (pw_or1 (pt_not (pt_val (pe_F O_l_are_gone (hr.mono (by decide)) rfl (pa_cons (pv 1) (pa_cons (pv 4) pa_nil)))))))) (pss_one (ps_ret pe_bl)) pss_nil)
      (pss_cons (ps_if (PW.pt (pw_or (pt_cmpR (in_K K hr) pe_int (pv 3) (by rfl)) (pw_or1 (pt_cmpR (in_K K hr) pe_int (pv 4) (by rfl))))) (pss_one (ps_ret (pe_and (pe_cmpR (in_K K hr) pe_int (pv 3) (by rfl)) (pe_one (pe_cmpR (in_K K hr) pe_int (pv 4) (by rfl)))))) pss_nil)
      (pss_cons (ps_if (pt_cmpR (ni_K K hr) (pe_op (plus_K K) (pe_tup (pa_cons pe_int (pa_cons pe_int pa_nil))) (pe_F O_l_owed (hr.mono (by decide)) rfl (pa_cons (pe_ix (ix_K K) (pv 0) pe_int (fun _ _ => rfl)) (pa_cons (pe_ix (ix_K K) (pv 1) pe_int (fun _ _ => rfl)) pa_nil)))) (pv 5) (by rfl)) (pss_one (ps_ret pe_bl)) pss_nil)
      (pss_one (ps_ret (pe_cmpR (eq_K K hr) (pe_lc (own := [("_law_row_here", 6)]) rfl sc_l_taken.nd (tup_K K (pv 5)) (blkOk_by (N := N_l_taken) (sc := defScope s_l_taken) (by decide +kernel)) (fun _ _ _ _ _ => (pg_name (i := 6) sc_l_taken.nd rfl (by first | exact Or.inl rfl | exact Or.inr rfl))) (fun _ _ _ _ _ => (pts_one (pt_not (pt_val (pe_F O_l_is_row (hr.mono (by decide)) rfl (pa_cons (pv 0) (pa_cons (pv 1) (pa_cons (pv 2) (pa_cons (pv 6) pa_nil))))))))) (fun _ _ _ _ _ => (pv 6))) (pe_lst pa_nil) (nomark _)))))))), ?_⟩
    have S0 : Tot (fun _ => False) A0 H A0 H := .refl hx
    have hf1 : Dp K A0 p (.tuple [.str F.lead, .list (F.fin.map eS), .list (F.tab.map eRL)]) := hf0
    have hs1 : Dp K A0 q (.tuple [.str S.lead, .list (S.fin.map eS), .list (S.tab.map eRL)]) := hs0
    replace hu0 : Dp K A0 u (.tuple [.tuple (pa.gone.map .int), .tuple (pa.far.map .int), .tuple (pa.rows.map eR)]) := hu0
    refine s_unp (K := K) S0 (ds := [.tuple (pa.gone.map .int), .tuple (pa.far.map .int), .tuple (pa.rows.map eR)]) (by walk_at "ev") rfl fun vs A1 B1 s1 S1 p1 => ?_
    obtain ⟨g, f, rws, rfl, pg, pf, pr⟩ := da_three p1
    refine ⟨g, [f, rws], rfl, f, [rws], rfl, rws, [], rfl, rfl, ?_⟩
    walk_at "nx"
    refine s_if (K := K) (b := !goneOK F pa.gone || !goneOK S pa.far) S1 (et_or (et_not (et_B ?_)) fun hb => et_not (et_B ?_)) (fun hb A3 B3 s3 S3 => ?_) (fun hb A3 B3 s3 S3 => ?_)
    · refine ev_call (R := fun A vs => PsAt A [isD K (eParts F), isD K (.tuple (pa.gone.map .int))] vs) (by walk_at "eap") fun A B vs e f pv Q k => ?_
      obtain ⟨x, y, rfl, px, py⟩ := ps_two pv
      exact ⟨A, L, F, x, y, pa.gone, rfl, f, lok, WF, px, py, k⟩
    · refine ev_call (R := fun A vs => PsAt A [isD K (eParts S), isD K (.tuple (pa.far.map .int))] vs) (by walk_at "eap") fun A B vs e f pv Q k => ?_
      obtain ⟨x, y, rfl, px, py⟩ := ps_two pv
      exact ⟨A, L, S, x, y, pa.far, rfl, f, lok, WS, px, py, k⟩
    · walk_at "ret"
      rw [taken_a hb]
      walk_at "ev"
    walk_at "nx"
    refine s_if (K := K) (b := decide ((0 : Int) ∈ pa.gone) || decide ((0 : Int) ∈ pa.far)) S3 (et_or (et_test (ev_inT (neg := false) (by walk_at "ev") (by walk_at "ev"))) fun _ => et_test (ev_inT (neg := false) (by walk_at "ev") (by walk_at "ev"))) (fun hb2 A4 B4 s4 S4 => ?_) (fun hb2 A4 B4 s4 S4 => ?_)
    · walk_at "ret"
      rw [taken_b hb hb2]
      exact ev_andV (a := decide ((0 : Int) ∈ pa.gone)) (b := decide ((0 : Int) ∈ pa.far)) (ev_inT (neg := false) (by walk_at "ev") (by walk_at "ev")) fun _ => ev_inT (neg := false) (by walk_at "ev") (by walk_at "ev")
    walk_at "nx"
    have m1 := WF.lead.mo lok
    have m2 := WS.lead.mo lok
    refine s_if (K := K) (b := !decide (((0 : Int), (0 : Int), (ow F.lead S.lead).1, (ow F.lead S.lead).2) ∈ pa.rows)) S4 ?_ (fun hb3 A5 B5 s5 S5 => ?_) (fun hb3 A5 B5 s5 S5 => ?_)
    · exact et_top (sp := sp_l_owed K CR CC) po (fun vs H Q h => h) (by walk_at "ev") (by walk_at "ev") (by walk_at "ev") m1 m2
    · walk_at "ret"
      rw [taken_c hb hb2]
      rw [Bool.not_eq_true'] at hb3
      rw [hb3]
      walk_at "ev"
    walk_at "nx"
    walk_at "ret"
    rw [Bool.not_eq_false'] at hb3
    rw [taken_c hb hb2, hb3, Bool.true_and]
    refine ev_is (ev_eqD (x := .list ((pa.rows.filter fun r => !rowOK F S L.length pa r).map eR)) (y := .list []) ?_ (by first | exact ev_lst ead_nil (Nat.zero_le _)) ?_ rfl) (by rw [eqv_nil])
    · refine ev_lc pa.rows eR (fun r => !rowOK F S L.length pa r) eR (src_tup (by walk_at "ev")) (by have := po.r; omega) fun r hr x A6 B6 e6 f6 p6 => ⟨_, g_name, rfl, et_not (et_B ?_), fun _ => by walk_at "ev"⟩
      have hE : Ex A1 A6 := ((s3.kn.trans s4.kn).trans s5.kn).trans e6
      refine ev_call (R := fun A vs => PsAt A [isD K (eParts F), isD K (eParts S), isD K (eP pa), isD K (eR r)] vs) ?_ fun A B vs e f pv Q k => ?_
      · refine eap_cons (P := isD _ _) (ev_var rfl ?_) mon_d (eap_cons (P := isD _ _) (ev_var rfl ?_) mon_d (eap_cons (P := isD _ _) (ev_var rfl ?_) mon_d (eap_cons (P := isD _ _) (ev_var rfl p6) mon_d eap_nil)))
        · exact dp_mono (s1.kn.trans hE) hf0
        · exact dp_mono (s1.kn.trans hE) hs0
        · exact dp_mono (s1.kn.trans hE) hu0
      · obtain ⟨x, y, z, t, rfl, px, py, pz, pt⟩ := ps_four pv
        exact ⟨A, L, F, S, x, y, z, t, pa, r, rfl, f, lok, WF, WS, px, py, pz, pt, po, (po.a r hr).1, (po.a r hr).2, k⟩
    · exact eRs_shapedL fun r hr => po.a r (List.mem_filter.mp hr).1
end
-- W9
def sp_Rw_is_whole (K : PySem.W.Frag) (CR CC : Addr) : Sp := fun vs H Q _ => ∃ (A : Hp) (p : Addr) (L : Str) (P : Rw), vs = [.ref p] ∧ Ex A H ∧ RwAt K CR A p L P ∧ Ret K A H Q (.bool true)
theorem fins_strs : ∀ xs : List (Option Str), (xs.filter fun o => !isN (eS o)).map eS = (xs.filterMap id).map PyData.str
  | [] => rfl
  | none :: xs => by
    have := fins_strs xs
    simpa [eS, isN] using this
  | some x :: xs => by
    have := fins_strs xs
    simp [eS, isN] at this ⊢
    exact this
theorem sum_le {α : Type} {f : α → Nat} {m : Nat} : ∀ xs : List α, (∀ x ∈ xs, f x ≤ m) → (xs.map f).sum ≤ xs.length * m
  | [], _ => by simp
  | x :: xs, h => by
    have h1 := sum_le xs fun y hy => h y (List.mem_cons_of_mem _ hy)
    have h2 := h x List.mem_cons_self
    rw [List.map_cons, List.sum_cons, List.length_cons, Nat.add_mul]
    omega
section
variable {P : Program} {w : World} {K : PySem.W.Frag} {mg : Str → Option Value} {base : Heap} {CR CC : Addr}
theorem ok_Rw_is_whole (Bm : Bl mg) (T : Txt K CR CC)  (F : DefM K CR "_is_whole" "Rewriter._is_whole" s_Rw_is_whole ["self"]) : OkM P w K mg base 1 CR "_is_whole" ["self"] (sp_Rw_is_whole K CR CC) := by
  refine okM_of F sc_Rw_is_whole (fun vs H Q E h => ?_) (fun f cdv Ar outer s H vs Q E hr h => ?_)
  · obtain ⟨A, p, L, P, rfl, _⟩ := h
    rfl
  · obtain ⟨A0, p, L, P, rfl, hx, R, k⟩ := h
    have hu := hu_of hr
    refine ⟨_, (pss_cons (ps_set (i := 1) sc_Rw_is_whole.nd rfl (Or.inl rfl) (b_len K rfl Bm.m_len (pa_cons (fld_K K (pv 0)) pa_nil)))
      (pss_cons (ps_if (PW.pt (pw_or (pt_cmpR (eq_K K hr) (pv 1) pe_int (nomark _)) (pw_or1 (pt_cmpR (ne_K K hr) (b_len K rfl Bm.m_len (pa_cons (fld_K K (pv 0)) pa_nil)) (pv 1) (nomark _))))) (pss_one (ps_ret pe_bl)) pss_nil)
      (pss_cons (ps_set (i := 2) sc_Rw_is_whole.nd rfl (Or.inl rfl) (pe_op (plus_K K) (pe_lst (pa_cons (fld_K K (pv 0)) pa_nil)) (pe_lc (own := [("final", 5)]) rfl sc_Rw_is_whole.nd (tup_K K (fld_K K (pv 0))) (blkOk_by (N := N_Rw_is_whole) (sc := defScope s_Rw_is_whole) (by decide +kernel)) (fun _ _ _ _ _ => (pg_name (i := 5) sc_Rw_is_whole.nd rfl (by first | exact Or.inl rfl | exact Or.inr rfl))) (fun _ _ _ _ _ => (pts_one (pt_cmpR notN_R (pv 5) pe_non (nomark _)))) (fun _ _ _ _ _ => (pv 5)))))
      (pss_cons (ps_for PassesOwn.never rfl (tup_K K (fld_K K (pv 0))) (pg_name (i := 3) sc_Rw_is_whole.nd rfl (by first | exact Or.inl rfl | exact Or.inr rfl))
       (pss_cons (ps_if (pt_cmpR (ne_K K hr) (b_len K rfl Bm.m_len (pa_cons (pv 3) pa_nil)) (b_len K rfl Bm.m_len (pa_cons (fld_K K (pv 0)) pa_nil)) (nomark _)) (pss_one (ps_ret pe_bl)) pss_nil)
        (pss_one (ps_for PassesOwn.never rfl (tup_K K (pv 3)) (pg_name (i := 4) sc_Rw_is_whole.nd rfl (by first | exact Or.inl rfl | exact Or.inr rfl))
         (pss_one (ps_if (pt_cmpR notN_R (pv 4) pe_non (nomark _)) (pss_cons (ps_if (pt_not (pt_chain op_le op_lt pe_int (pe_ix (ix_K K) (pv 4) pe_int (fun _ _ => rfl)) (pv 1))) (pss_one (ps_ret pe_bl)) pss_nil)
            (pss_one (ps_expr (bm_K K PySem.F.plainAttrs_list PySem.F.slot_list_append PySem.F.type_list_append mt_append (pv 2) (pa_cons (pe_ix (ix_K K) (pv 4) pe_int (fun _ _ => rfl)) pa_nil))))) pss_nil))))))
      (pss_one (ps_ret (b_all K rfl rfl Bm.m_all (pa_cons (pe_lc2 (own := [("text", 6), ("letter", 7)]) (vs1 := [7]) rfl sc_Rw_is_whole.nd (list_K K (pv 2)) (blkOk_by (N := N_Rw_is_whole) (sc := defScope s_Rw_is_whole) (by decide +kernel)) (by decide) (fun _ _ _ _ _ => (pg_name (i := 6) sc_Rw_is_whole.nd rfl (by first | exact Or.inl rfl | exact Or.inr rfl))) (fun _ _ _ _ _ => pts_nil) (fun _ _ _ _ _ => (pi_str (pv 6))) (fun _ _ _ _ _ => (pg_name (i := 7) sc_Rw_is_whole.nd rfl (by first | exact Or.inl rfl | exact Or.inr rfl))) (fun _ _ _ _ _ => pts_nil) (fun _ _ _ _ _ => (pe_cmpR (in_K K hr) (pv 7) (fld_K K (pv 0)) (by rfl)))) pa_nil)))))))), ?_⟩
    have S0 : Tot (fun _ => False) A0 H A0 H := .refl hx
    have w1 := R.wf.pos
    have w2 := R.wf.len
    have w3 := R.wf.max
    have w4 := R.lok.two
    refine s_asg (K := K) (d := .int (P.fin.length : Nat)) S0 (ev_is (ev_len (by walk_at "ev") rfl) (by rw [List.length_map])) fun v A1 B1 s1 S1 p1 => ?_
    have ev := dp_int p1
    subst ev
    walk_at "nx"
    refine s_if (K := K) (b := false) S1 (et_is (et_or (a := false) (b := false) (et_is (b := decide ((P.fin.length : Int) = 0)) (et_test (ev_eqS (by walk_at "ev") (by walk_at "ev") rfl)) (decide_eq_false (by omega))) fun _ => et_is (b := !decide ((P.tab.length : Int) = (P.fin.length : Int))) (et_test (ev_neS (x := .int (P.tab.length : Nat)) (ev_is (ev_len (by walk_at "ev") rfl) (by rw [List.length_map])) (by walk_at "ev") rfl)) (by rw [decide_eq_true (by omega)]; rfl)) rfl) (fun z => nomatch z) (fun _ A2 B2 s2 S2 => ?_)
    walk_at "nx"
    refine st_newAdd (K := K) (xs := [.str P.lead]) (ys := (P.fin.filter fun o => !isN (eS o)).map eS) (evl_lst (by walk_at "ea") (Nat.le_of_ble_eq_true rfl)) ?_ S2 ?_ fun l vs A3 B3 s3 p3 S3 O3 hn3 => ?_
    · exact evl_lc P.fin eS (fun o => !isN (eS o)) eS (src_tup (by walk_at "ev")) (by omega) fun o ho x A B e f px => ⟨_, g_name, rfl, et_test (ev_is1 (by walk_at "ev") (by walk_at "ev") rfl), fun _ => by walk_at "ev"⟩
    · have := List.length_filter_le (fun o => !isN (eS o)) P.fin
      rw [List.length_map]
      show 1 + _ ≤ _
      omega
    have hys : ∃ ys : List Str, vs = ys.map V.str ∧ (∀ y ∈ ys, Tx L y) ∧ ys.length ≤ 5 := by
      rw [fins_strs] at p3
      have p3 : DpAll K A3 vs ((P.lead :: P.fin.filterMap id).map PyData.str) := p3
      refine ⟨_, da_to_strs p3, ?_, ?_⟩
      · intro y hy
        rcases List.mem_cons.mp hy with rfl | hy
        · exact R.wf.lead
        · rw [List.mem_filterMap] at hy
          obtain ⟨o, ho, rfl⟩ := hy
          exact R.wf.fins y ho
      · have := List.length_filterMap_le id P.fin
        rw [List.length_cons]
        omega
    obtain ⟨ys0, rfl, hT0, hl0⟩ := hys
    walk_at "nx"
    refine st_for (K := K) (xs := P.tab) (enc := eRT) (src_tup (by walk_at "ev")) S3.le fun A4 B4 s4 => ⟨fun i σ A B => ∃ z1 z2 ys, σ = [some (.ref p), some (.int (P.fin.length : Nat)), some (.ref l), z1, z2, none, none, none] ∧ Tot (fun _ => False) A0 H A B ∧ Own A0 H A B l (.lst (ys.map V.str)) ∧ (∀ y ∈ ys, Tx L y) ∧ ys.length ≤ 5 + i * 2, ⟨_, _, _, rfl, S3.go s4, O3.go s4, hT0, hl0⟩, ?_, ?_⟩
    · rintro i r x σ' A B A5 B5 hi hA hB ⟨z1, z2, ys, rfl, S4, O4, hT, hl⟩ s5 px
      have S5 := S4.go s5
      have O5 := O4.go s5
      have hr := R.wf.row r (List.mem_of_getElem? hi)
      have hi4 : i < P.tab.length := (List.getElem?_eq_some_iff.mp hi).1
      have hE : Ex A0 A5 := ((((s1.kn.trans s2.kn).trans s3.kn).trans s4.kn).trans hA).trans s5.kn
      replace R := R.mono hE
      dsimp only [gName]
      refine s_if (K := K) (b := false) S5 (et_is (b := !decide ((L.length : Int) = (L.length : Int))) (et_test (ev_neS (x := .int (L.length : Nat)) (y := .int (L.length : Nat)) (ev_is (ev_len (d := eRT r) (by walk_at "ev") rfl) (by rw [List.length_map, hr])) (ev_len (d := .str L) (by walk_at "ev") (if_pos (by omega))) rfl)) (by simp)) (fun z => nomatch z) (fun _ A6 B6 s6 S6 => ?_)
      have O6 := O5.go s6
      walk_at "nx"
      refine st_for (K := K) (xs := r) (enc := eW) (src_tup (ds := r.map eW) (by walk_at "ev")) S6.le fun A7 B7 s7 => ⟨fun j σ A B => ∃ z2 ys, σ = [some (.ref p), some (.int (P.fin.length : Nat)), some (.ref l), some x, z2, none, none, none] ∧ Tot (fun _ => False) A0 H A B ∧ Own A0 H A B l (.lst (ys.map V.str)) ∧ (∀ y ∈ ys, Tx L y) ∧ ys.length ≤ 5 + i * 2 + j, ⟨_, _, rfl, S6.go s7, O6.go s7, hT, by omega⟩, ?_, ?_⟩
      · rintro j w y σ' A' B' A8 B8 hj hA' hB' ⟨z2, ys, rfl, S7, O7, hT, hl⟩ s8 py
        have S8 := S7.go s8
        have O8 := O7.go s8
        have hj8 : j < r.length := (List.getElem?_eq_some_iff.mp hj).1
        dsimp only [gName]
        cases w with
        | none =>
          refine s_if (K := K) (b := false) S8 (et_test (ev_is1 (d := .none) (ev_var rfl py) (by walk_at "ev") rfl)) (fun z => nomatch z) (fun _ A9 B9 s9 S9 => ?_)
          exact ⟨A9, (hA'.trans s8.kn).trans s9.kn, S9.le, _, ys, rfl, S9, O8.go s9, hT, by omega⟩
        | some tx =>
          obtain ⟨t, z⟩ := tx
          obtain ⟨ht, hz⟩ := R.wf.way r (List.mem_of_getElem? hi) t z (List.mem_of_getElem? hj)
          replace py : Dp K A8 y (.tuple [.int (t : Nat), .str z]) := py
          refine s_if (K := K) (b := true) S8 (et_test (ev_is1 (d := .tuple [.int (t : Nat), .str z]) (ev_var rfl py) (by walk_at "ev") rfl)) (fun _ A9 B9 s9 S9 => ?_) (fun z => nomatch z)
          walk_at "nx"
          refine s_if (K := K) (b := false) S9 (et_is (et_not (et_test (ev_chain (p := fun i j => decide (i ≤ j)) (q := fun i j => decide (i < j)) (i := 0) (j := (t : Nat)) (l := (P.fin.length : Nat)) (by walk_at "ev") (by walk_at "ev") fun _ => by walk_at "ev"))) ?_) (fun z => nomatch z) (fun _ A10 B10 s10 S10 => ?_)
          · rw [Bool.not_eq_false', Bool.and_eq_true]
            exact ⟨decide_eq_true (by omega), decide_eq_true (by omega)⟩
          walk_at "nx"
          refine st_app (K := K) (xs := ys.map V.str) (P := isD K (.str z)) (ev_ref rfl) (by walk_at "ev") S10 ((O8.go s9).go s10) (by rw [List.length_map]; omega) fun v A11 B11 s11 p11 S11 O11 => ?_
          have ev := dp_str p11
          subst ev
          refine ⟨A11, (((hA'.trans s8.kn).trans s9.kn).trans s10.kn).trans s11.kn, S11.le, some y, ys ++ [z], rfl, S11, by rw [List.map_append]; exact O11, ?_, by rw [List.length_append, List.length_singleton]; omega⟩
          intro u hu
          rcases List.mem_append.mp hu with hu | hu
          · exact hT u hu
          · rw [List.mem_singleton] at hu
            subst hu
            exact hz
      · rintro σ' A' B' hA' hB' ⟨z2, ys, rfl, S7, O7, hT, hl⟩
        exact ⟨A', (((hA.trans s5.kn).trans s6.kn).trans s7.kn).trans hA', hB', _, _, ys, rfl, S7, O7, hT, by omega⟩
    · rintro σ' A B hA hB ⟨z1, z2, ys, rfl, S4, O4, hT, hl⟩
      obtain ⟨S5, e5⟩ := S4.frz O4
      have hE : Ex A0 (upd A l (.lst (ys.map V.str))) := ((((s1.kn.trans s2.kn).trans s3.kn).trans s4.kn).trans hA).trans e5
      replace R := R.mono hE
      have hd : Dp K (upd A l (.lst (ys.map V.str))) (.ref l) (.list (ys.map PyData.str)) := .lst (SqL.of upd_same) (da_strs ys)
      walk_at "ret"
      refine ev_is (ev_all (ev_lc2 ys PyData.str (fun y => tl y) (fun c => .str ⟨#[c]⟩) (src_list (ev_var rfl hd)) ?_ fun y hy x A B e f px => ⟨_, g_name, rfl, src_str (by walk_at "ev"), fun c hc z A' B' e' f' pz => ⟨_, g_name, rfl, ?_⟩⟩)) ?_
      · have h1 := sum_le (f := fun y => (tl y).length) (m := 20) ys fun y hy => by rw [tl_len]; exact (hT y hy).len
        omega
      · refine ev_is (ev_inS (neg := false) (c := c) (z := L) (ev_var rfl pz) (by walk_at "ev")) ?_
        show PyData.bool (decide (c ∈ tl L)) = .bool true
        rw [decide_eq_true ((hT y hy).mem c hc)]
      · congr 1
        rw [List.all_eq_true]
        intro b hb
        exact List.eq_of_mem_replicate hb
end
-- W10
def sp_Rw_init (K : PySem.W.Frag) (CR CC : Addr) : Sp := fun vs H Q _ => ∃ (A B : Hp) (p dx : Addr) (L : Str) (P : Rw) (vf vt : V), vs = [.ref p, .str L, .str P.lead, vf, vt] ∧ Tot (fun _ => False) A B A H ∧ Own A B A H p (.ins CR dx []) ∧ LOk L ∧ Wf L P ∧
  Dp K A vf (.list (P.fin.map eS)) ∧ Dp K A vt (.list (P.tab.map eRL)) ∧ (∀ A' B', Tot (fun _ => False) A B A' B' → RwAt K CR A' p L P → Q .non B')
theorem put_ne {g f : Str} {v x : V} {r : List (Str × V)} (h : (g == f) = false) : putF f v ((g, x) :: r) = (g, x) :: putF f v r := by
  show (if g = f then _ else _) = _
  rw [if_neg (by simpa using h)]
theorem len_putF (f : Str) (v : V) : ∀ fs : List (Str × V), (putF f v fs).length ≤ fs.length + 1
  | [] => Nat.le_refl _
  | (g, x) :: r => by
    show (if g = f then _ else _ : List (Str × V)).length ≤ _
    have := len_putF f v r
    split <;> simp only [List.length_cons] <;> omega
section
variable {P : Program} {w : World} {K : PySem.W.Frag} {mg : Str → Option Value} {base : Heap} {CR CC : Addr}
theorem ok_Rw_init (Bm : Bl mg) (T : Txt K CR CC) (O_Rw_is_whole : OkM P w K mg base 1 CR "_is_whole" ["self"] (sp_Rw_is_whole K CR CC)) (F : DefC K mg CR "Rewriter" "Rewriter.__init__" s_Rw_init ["self", "letters", "lead", "finals", "table"]) : OkC P w K mg base 2 "Rewriter" CR ["self", "letters", "lead", "finals", "table"] (sp_Rw_init K CR CC) := by
  refine okC_of F sc_Rw_init (fun vs H Q E h => ?_) (fun f cdv Ar outer s H vs Q E hr h => ?_)
  · obtain ⟨A, B, p, dx, L, P, vf, vt, rfl, _⟩ := h
    rfl
  · obtain ⟨A0, B0, p, dx, L, P, vf, vt, rfl, S0, O0, lok, wf, hf, ht, k⟩ := h
    have hu := hu_of hr
    refine ⟨_, (pss_cons (ps_fld (pv 0) (pv 1) rfl)
      (pss_cons (ps_fld (pv 0) (pv 2) rfl)
      (pss_cons (ps_fld (pv 0) (b_tuple K rfl Bm.m_tuple (pa_cons (pv 3) pa_nil)) rfl)
      (pss_cons (ps_fld (pv 0) (b_tuple K rfl Bm.m_tuple (pa_cons (pe_lc (own := [("row", 5)]) rfl sc_Rw_init.nd (list_K K (pv 4)) (blkOk_by (N := N_Rw_init) (sc := defScope s_Rw_init) (by decide +kernel)) (fun _ _ _ _ _ => (pg_name (i := 5) sc_Rw_init.nd rfl (by first | exact Or.inl rfl | exact Or.inr rfl))) (fun _ _ _ _ _ => pts_nil) (fun _ _ _ _ _ => (b_tuple K rfl Bm.m_tuple (pa_cons (pv 5) pa_nil)))) pa_nil)) rfl)
      (pss_one (ps_if (pt_not (pt_val (pe_D0 O_Rw_is_whole (hr.mono (by decide)) (pv 0)))) (pss_one ps_never) pss_nil)))))), ?_⟩
    refine st_fld (K := K) (P := isV (.str L)) (ev_ref rfl) (by walk_at "ref") S0 O0 T.cr T.r1 (by decide) fun v A1 B1 s1 p1 S1 O1 => ?_
    subst p1
    have n1 := len_putF ("letters" : Str) (.str L) []
    walk_at "nx"
    refine st_fld (K := K) (P := isV (.str P.lead)) (ev_ref rfl) (by walk_at "ref") S1 O1 T.cr T.r2 (Nat.lt_of_le_of_lt n1 (by decide)) fun v A2 B2 s2 p2 S2 O2 => ?_
    subst p2
    have n2 := len_putF ("lead" : Str) (.str P.lead) (putF ("letters" : Str) (.str L) [])
    walk_at "nx"
    refine st_fld (K := K) (P := isD K (.tuple (P.fin.map eS))) (ev_ref rfl) (ev_tupOfL (by walk_at "ev")) S2 O2 T.cr T.r3 (by have : ([] : List (Str × V)).length = 0 := rfl; omega) fun v3 A3 B3 s3 p3 S3 O3 => ?_
    have n3 := len_putF ("finals" : Str) v3 (putF ("lead" : Str) (.str P.lead) (putF ("letters" : Str) (.str L) []))
    walk_at "nx"
    have hpos := wf.len
    have hmax := wf.max
    refine st_fld (K := K) (P := isD K (.tuple (P.tab.map eRT))) (ev_ref rfl) (ev_tupOfL (ev_lc0 P.tab eRL eRT (src_list (by walk_at "ev")) (by omega) fun r hr x A B e f px => ⟨_, g_name, rfl, ?_⟩)) S3 O3 T.cr T.r4 (by have : ([] : List (Str × V)).length = 0 := rfl; omega) fun v4 A4 B4 s4 p4 S4 O4 => ?_
    · exact ev_tupOfL (ds := r.map eW) (ev_var rfl px)
    walk_at "nx"
    have e : putF ("table" : Str) v4 (putF ("finals" : Str) v3 (putF ("lead" : Str) (.str P.lead) (putF ("letters" : Str) (.str L) []))) = rfs L P.lead v3 v4 := by
      have e1 : putF ("letters" : Str) (.str L) [] = [(("letters" : Str), V.str L)] := rfl
      have e2 : putF ("lead" : Str) (.str P.lead) [(("letters" : Str), V.str L)] = [(("letters" : Str), V.str L), (("lead" : Str), V.str P.lead)] := put_ne (by decide +kernel)
      have e3 : putF ("finals" : Str) v3 [(("letters" : Str), V.str L), (("lead" : Str), V.str P.lead)] = [(("letters" : Str), V.str L), (("lead" : Str), V.str P.lead), (("finals" : Str), v3)] := (put_ne (by decide +kernel)).trans (congrArg _ (put_ne (by decide +kernel)))
      have e4 : putF ("table" : Str) v4 [(("letters" : Str), V.str L), (("lead" : Str), V.str P.lead), (("finals" : Str), v3)] = [(("letters" : Str), V.str L), (("lead" : Str), V.str P.lead), (("finals" : Str), v3), (("table" : Str), v4)] := (put_ne (by decide +kernel)).trans (congrArg _ ((put_ne (by decide +kernel)).trans (congrArg _ (put_ne (by decide +kernel)))))
      rw [e1, e2, e3, e4]
      rfl
    rw [e] at O4 S4
    rw [e]
    obtain ⟨S5, e5⟩ := S4.frz O4
    have p3' : Dp K A4 v3 (.tuple (P.fin.map eS)) := dp_mono s4.kn p3
    have R : RwAt K CR (upd A4 p (.ins CR dx (rfs L P.lead v3 v4))) p L P := ⟨⟨dx, v3, v4, upd_same, dp_mono e5 p3', dp_mono e5 p4⟩, lok, wf⟩
    refine s_if (K := K) (b := false) S5 (et_is (et_not (et_B (b := true) ?_)) rfl) (fun z => nomatch z) (fun _ A6 B6 s6 S6 => ?_)
    · refine ev_meth (R := fun A vs => PsAt A [] vs) (by walk_at "ref") upd_same (rfs0 (by decide +kernel) (by decide +kernel) (by decide +kernel) (by decide +kernel)) (by walk_at "eap") fun A B vs e f pv Q k => ?_
      match vs, pv with
      | [], _ => exact ⟨A, p, L, P, rfl, f, R.mono e, k⟩
    · exact k A6 B6 S6 (R.mono s6.kn)
/-- Rewriter(letters, lead, finals, table) -/
theorem ev_rw {σ : L2.St} {A : Hp} {t1 t2 t3 t4 : TE} {L : Str} {P : Rw} (lok : LOk L) (wf : Wf L P) (h1 : EvD K t1 σ A (.str L)) (h2 : EvD K t2 σ A (.str P.lead)) (h3 : EvD K t3 σ A (.list (P.fin.map eS))) (h4 : EvD K t4 σ A (.list (P.tab.map eRL))) :
    EvP (tMake CR (sp_Rw_init K CR CC) [] E0 (tCons t1 (tCons t2 (tCons t3 (tCons t4 tNil))))) σ A fun A v => ∃ p, v = .ref p ∧ RwAt K CR A p L P := by
  refine ev_make (R := fun A vs => PsAt A [isD K (.str L), isD K (.str P.lead), isD K (.list (P.fin.map eS)), isD K (.list (P.tab.map eRL))] vs) (eap_cons h1 mon_d (eap_cons h2 mon_d (eap_cons h3 mon_d (eap_cons h4 mon_d eap_nil)))) fun A B vs e f r p dx H S O Q k => ?_
  obtain ⟨u1, u2, u3, u4, rfl, q1, q2, q3, q4⟩ := ps_four r
  have e1 := dp_str q1
  have e2 := dp_str q2
  subst e1 e2
  exact ⟨A, B, p, dx, L, P, u3, u4, rfl, S, O, lok, wf, q3, q4, fun A' B' S' R' => k A' B' S' ⟨p, rfl, R'⟩⟩
end
-- W11
inductive Live (P : Rw) : Nat → Prop
  | fin {k : Nat} {x : Str} : P.fin[k]? = some (some x) → Live P k
  | way {k t : Nat} {r : List Way} {x : Str} : P.tab[k]? = some r → some (t, x) ∈ r → Live P t → Live P k
theorem Live.lt {L : Str} {P : Rw} {k : Nat} (w : Wf L P) (h : Live P k) : k < P.fin.length := by
  cases h with
  | fin h => exact (List.getElem?_eq_some_iff.mp h).1
  | way h _ _ => have := (List.getElem?_eq_some_iff.mp h).1; have := w.len; omega
def sp_live_states (K : PySem.W.Frag) (CR CC : Addr) : Sp := fun vs H Q _ => ∃ (A : Hp) (p : Addr) (L : Str) (P : Rw), vs = [.ref p] ∧ Ex A H ∧ RwAt K CR A p L P ∧
  ∀ (ns : List Int) v A' B', (∀ s : Int, s ∈ ns ↔ ∃ k : Nat, s = k ∧ Live P k) → Stp A H A' B' → Dp K A' v (.list (ns.map .int)) → Q v B'
/-- the way's target is among ns -/
def wl (ns : List Int) : Way → Bool
  | none => false
  | some (t, _) => decide ((t : Int) ∈ ns)
def msr (n : Nat) (ns : List Int) : Nat := ((List.range n).filter fun k : Nat => !decide ((k : Int) ∈ ns)).length
theorem filter_le {α : Type} {f g : α → Bool} (h : ∀ a, f a = true → g a = true) : ∀ xs : List α, (xs.filter f).length ≤ (xs.filter g).length
  | [] => Nat.le_refl _
  | x :: xs => by
    have ih := filter_le h xs
    cases hf : f x
    · rw [List.filter_cons_of_neg (by rw [hf]; decide)]
      have := (List.sublist_cons_self x xs).filter g |>.length_le
      omega
    · rw [List.filter_cons_of_pos hf, List.filter_cons_of_pos (h x hf)]
      simp only [List.length_cons]
      omega
theorem filter_lt {α : Type} {f g : α → Bool} (h : ∀ a, f a = true → g a = true) {a : α} (hf : f a = false) (hg : g a = true) : ∀ xs : List α, a ∈ xs → (xs.filter f).length < (xs.filter g).length
  | x :: xs, hm => by
    have h1 := filter_le h xs
    by_cases e : a = x
    · subst e
      rw [List.filter_cons_of_neg (by rw [hf]; decide), List.filter_cons_of_pos hg, List.length_cons]
      omega
    · have ih := filter_lt h hf hg xs (by rcases List.mem_cons.mp hm with z | z; exact absurd z e; exact z)
      cases hf : f x
      · rw [List.filter_cons_of_neg (by rw [hf]; decide)]
        have := (List.sublist_cons_self x xs).filter g |>.length_le
        omega
      · rw [List.filter_cons_of_pos hf, List.filter_cons_of_pos (h x hf)]
        simp only [List.length_cons]
        omega
theorem msr_lt {n : Nat} {ns ms : List Int} {k : Nat} (hk : k < n) (h1 : (k : Int) ∉ ns) (h2 : (k : Int) ∈ ms) : msr n (ns ++ ms) < msr n ns := by
  refine filter_lt (a := k) (fun a h => ?_) ?_ ?_ _ (List.mem_range.mpr hk)
  · simp only [Bool.not_eq_true', decide_eq_false_iff_not, List.mem_append, not_or] at h ⊢
    exact h.1
  · simp [h2]
  · simp [h1]
theorem msr_le (n : Nat) (ns : List Int) : msr n ns ≤ n := by
  have := List.length_filter_le (fun k : Nat => !decide ((k : Int) ∈ ns)) (List.range n)
  rw [List.length_range] at this
  exact this
theorem ints_shaped (ns : List Int) : SeqAt.shaped (.list (ns.map .int)) = true := by
  have h1 : ∀ ns : List Int, PyData.canLayAll0 (ns.map .int) = true ∧ PyData.depthAll (ns.map .int) ≤ 1 := by
    intro ns
    induction ns with
    | nil => simp [PyData.canLayAll0, PyData.depthAll]
    | cons a t ih => simp only [List.map_cons, PyData.canLayAll0, PyData.depthAll, PyData.canLay0, PyData.depth, ih.1]; exact ⟨rfl, by omega⟩
  have h2 : PyData.depth (.list (ns.map .int)) ≤ 64 := by simp only [PyData.depth]; have := (h1 ns).2; omega
  show (PyData.canLay0 (.list (ns.map .int)) && decide (PyData.depth (.list (ns.map .int)) ≤ 64)) = true
  rw [Bool.and_eq_true]
  exact ⟨by simp only [PyData.canLay0]; exact (h1 ns).1, decide_eq_true h2⟩
theorem eqv_nilI (ns : List Int) : PyData.eqv (.list (ns.map .int)) (.list []) = ns.isEmpty := by
  cases ns <;> simp [PyData.eqv, PyData.eqvAll]
section
variable {K : PySem.W.Frag} {σ : L2.St} {A0 : Hp} {te ta tb : TE} {D : Ends} {M : Addr → Prop} {B0 A B : Hp}
theorem src_enumM {α : Type} {xs : List α} {enc : α → PyData} (h : EvD K te σ A0 (.tuple (xs.map enc))) : Src K (iEnumT K (tCons te tNil)) σ A0 (xs.zipIdx.map fun p => .tuple [.int (p.2 : Nat), enc p.1]) := by
  have h := src_enumT h
  rw [List.zipIdx_map, List.map_map] at h
  exact h
theorem ev_sortedI {ns : List Int} (h : EvD K te σ A0 (.list (ns.map .int))) (hl : ns.length < 64) : EvP (tCB (rSorted K) (tCons te tNil)) σ A0 fun A v => ∃ ns' : List Int, ns'.Perm ns ∧ Dp K A v (.list (ns'.map .int)) :=
  ev_cb (ead_cons h ead_nil) fun A B vs _ f p Q k => by
    obtain ⟨v, e0, pv⟩ := da_one p
    subst e0
    obtain ⟨a, us, rfl, hs, pa⟩ := dp_lst pv
    have e := da_to_ints pa
    subst e
    exact ⟨a, ns, rfl, ex_l f hs, hl, fun ns' q hp _ hq => k _ (upd A q (.lst (ns'.map V.int))) _ (.new f hq) ⟨ns', hp, .lst (SqL.of upd_same) (da_ints _)⟩⟩
/-- x.extend(y), both own -/
theorem st_ext {l l2 : Addr} {xs ys : List V} (ho : ∀ A, EvP ta σ A fun _ v => v = .ref l) (h : ∀ A, EvP te σ A fun _ v => v = .ref l2) (S : Tot M A0 B0 A B) (O : Own A0 B0 A B l (.lst xs)) (O2 : Own A0 B0 A B l2 (.lst ys)) (hl : xs.length + ys.length ≤ 1000000)
    (k : ∀ B', Stp A B A B' → Tot M A0 B0 A (upd B' l (.lst (xs ++ ys))) → Own A0 B0 A (upd B' l (.lst (xs ++ ys))) l (.lst (xs ++ ys)) → B' l2 = some (.lst ys) → D.nx σ (upd B' l (.lst (xs ++ ys)))) :
    tDrop (tBM K "list" rExtend ta (tCons te tNil)) D σ B := ho A A B (Ex.refl _) S.le _ fun v A1 B1 s1 e => by
  subst e
  have s1 := s1.back (Ex.refl _)
  have O1 := O.go s1
  refine ⟨.inl ⟨rfl, xs, SqL.of O1.at_⟩, h A A B1 (Ex.refl _) s1.le _ fun w A2 B2 s2 p => ?_⟩
  subst p
  have s2 := s2.back (Ex.refl _)
  have O2' := O1.go s2
  have Oy := (O2.go s1).go s2
  exact ⟨l, l2, xs, ys, rfl, rfl, O2'.at_, Oy.at_, Nat.le_trans hl (by decide), k B2 (s1.trans s2) (((S.go s1).go s2).mut O2') O2'.put Oy.at_⟩
end
section
variable {P : Program} {w : World} {K : PySem.W.Frag} {mg : Str → Option Value} {base : Heap} {CR CC : Addr}
theorem ok_live_states (Bm : Bl mg) (T : Txt K CR CC)  (F : DefF K mg "live_states" s_live_states ["rewriter"]) : OkF P w K mg base 1 "live_states" ["rewriter"] (sp_live_states K CR CC) := by
  refine okF_of F sc_live_states (fun vs H Q E h => ?_) (fun f cdv Ar outer s H vs Q E hr h => ?_)
  · obtain ⟨A, p, L, P, rfl, _⟩ := h
    rfl
  · obtain ⟨A0, p, L, P, rfl, hx, R, k⟩ := h
    have hu := hu_of hr
    refine ⟨_, (pss_cons (ps_set (i := 1) sc_live_states.nd rfl (Or.inr rfl) (pe_lc (own := [("state", 4), ("final", 5)]) rfl sc_live_states.nd (enum_K K rfl Bm.m_enumerate (pa_cons (fld_K K (pv 0)) pa_nil)) (blkOk_by (N := N_live_states) (sc := defScope s_live_states) (by decide +kernel)) (fun _ _ _ _ _ => (gtup_K K (n := 2) rfl (pgs_cons (pg_name (i := 4) sc_live_states.nd rfl (by first | exact Or.inl rfl | exact Or.inr rfl)) (pgs_cons (pg_name (i := 5) sc_live_states.nd rfl (by first | exact Or.inl rfl | exact Or.inr rfl)) pgs_nil)))) (fun _ _ _ _ _ => (pts_one (pt_cmpR notN_R (pv 5) pe_non (nomark _)))) (fun _ _ _ _ _ => (pv 4))))
      (pss_cons (ps_set (i := 2) sc_live_states.nd rfl (Or.inl rfl) pe_bl)
      (pss_cons (ps_while PassesOwn.never (pt_val (pv 2))
       (pss_cons (ps_setLc (i := 3) (own := [("state", 4), ("row", 6)]) rfl sc_live_states.nd rfl rfl (sw_true rfl rfl rfl (by decide +kernel)) (enum_K K rfl Bm.m_enumerate (pa_cons (fld_K K (pv 0)) pa_nil)) (blkOk_by (N := N_live_states) (sc := defScope s_live_states) (by decide +kernel)) (fun _ _ _ _ _ => (gtup_K K (n := 2) rfl (pgs_cons (pg_name (i := 4) sc_live_states.nd rfl (by first | exact Or.inl rfl | exact Or.inr rfl)) (pgs_cons (pg_name (i := 6) sc_live_states.nd rfl (by first | exact Or.inl rfl | exact Or.inr rfl)) pgs_nil)))) (fun _ _ _ _ _ => (pts_one (PW.pt (pw_and (pt_cmpR (ni_K K hr) (pv 4) (pv 1) (by rfl)) (pw_and1 (pt_val (b_any K rfl rfl Bm.m_any (pa_cons (pe_lc (own := [("way", 7)]) rfl sc_live_states.nd (tup_K K (pv 6)) (blkOk_by (N := N_live_states) (sc := relS _ (defScope s_live_states)) (by decide +kernel)) (fun _ _ _ _ _ => (pg_name (i := 7) sc_live_states.nd rfl (by first | exact Or.inl rfl | exact Or.inr rfl))) (fun _ _ _ _ _ => pts_nil) (fun _ _ _ _ _ => (pe_and (pe_cmpR notN_R (pv 7) pe_non (nomark _)) (pe_one (pe_cmpR (in_K K hr) (pe_ix (ix_K K) (pv 7) pe_int (fun _ _ => rfl)) (pv 1) (by rfl)))))) pa_nil)))))))) (fun _ _ _ _ _ => (pv 4)))
        (pss_cons (ps_expr (bm_K K PySem.F.plainAttrs_list PySem.F.slot_list_extend PySem.F.type_list_extend mt_extend (pv 1) (pa_cons (pv 3) pa_nil)))
        (pss_one (ps_set (i := 2) sc_live_states.nd rfl (Or.inl rfl) (pe_cmpR (ne_K K hr) (pv 3) (pe_lst pa_nil) (nomark _)))))))
      (pss_one (ps_ret (b_sortedI K rfl Bm.m_sorted (pa_cons (pv 1) pa_nil))))))), ?_⟩
    have S0 : Tot (fun _ => False) A0 H A0 H := .refl hx
    have w2 := R.wf.len
    have w3 := R.wf.max
    have w4 := R.lok.two
    refine st_newLc (K := K) P.fin.zipIdx (fun q => .tuple [.int (q.2 : Nat), eS q.1]) (fun q => !isN (eS q.1)) (fun q => .int (q.2 : Nat)) S0 (src_enumM (by walk_at "ev")) (by rw [List.length_zipIdx]; omega) (fun q hq x A' B' e f px => ?_) fun l us A1 B1 s1 pus S1 O1 => ?_
    · obtain ⟨u, v, pu, pv, hg⟩ := g_two px f
      exact ⟨_, hg, rfl, et_test (ev_is1 (ev_var rfl pv) (by walk_at "ev") rfl), fun _ => ev_var rfl pu⟩
    have hns : ∃ ns : List Int, us = ns.map V.int ∧ (∀ s ∈ ns, ∃ k : Nat, s = k ∧ Live P k) ∧ (∀ (k : Nat) (x : Str), P.fin[k]? = some (some x) → (k : Int) ∈ ns) ∧ ns.length ≤ 4 := by
      have e : ((P.fin.zipIdx.filter fun q => !isN (eS q.1)).map fun q => PyData.int (q.2 : Nat)) = ((P.fin.zipIdx.filter fun q => !isN (eS q.1)).map fun q => ((q.2 : Nat) : Int)).map PyData.int := by
        rw [List.map_map]
        rfl
      rw [e] at pus
      refine ⟨_, da_to_ints pus, ?_, ?_, ?_⟩
      · intro s hs
        rw [List.mem_map] at hs
        obtain ⟨⟨o, i⟩, ho, rfl⟩ := hs
        rw [List.mem_filter, List.mem_zipIdx_iff_getElem?] at ho
        refine ⟨i, rfl, ?_⟩
        cases o with
        | none => exact nomatch ho.2
        | some x => exact .fin ho.1
      · intro k x hk
        rw [List.mem_map]
        refine ⟨(some x, k), ?_, rfl⟩
        rw [List.mem_filter, List.mem_zipIdx_iff_getElem?]
        exact ⟨hk, rfl⟩
      · rw [List.length_map]
        have := List.length_filter_le (fun q : Option Str × Nat => !isN (eS q.1)) P.fin.zipIdx
        rw [List.length_zipIdx] at this
        omega
    obtain ⟨ns0, rfl, hs0, hb0, hl0⟩ := hns
    walk_at "nx"
    refine s_asg (K := K) (d := .bool true) S1 (by walk_at "ev") fun v A2 B2 s2 S2 p2 => ?_
    have ev := dp_bl p2
    subst ev
    walk_at "nx"
    refine st_while (K := K) (fun m σ A B => ∃ (ns : List Int) (grown : Bool) (z3 : Option V), σ = [some (.ref p), some (.ref l), some (.bl grown), z3, none, none, none, none] ∧ Ex A0 A ∧ Tot (fun _ => False) A0 H A B ∧ Own A0 H A B l (.lst (ns.map V.int)) ∧
      (∀ s ∈ ns, ∃ k : Nat, s = k ∧ Live P k) ∧ (∀ (k : Nat) (x : Str), P.fin[k]? = some (some x) → (k : Int) ∈ ns) ∧ (grown = false → ∀ (k t : Nat) (r : List Way) (x : Str), P.tab[k]? = some r → some (t, x) ∈ r → (t : Int) ∈ ns → (k : Int) ∈ ns) ∧ m = msr P.fin.length ns + (if grown then 1 else 0) ∧ ns.length + 10 * m ≤ 60)
      _ ⟨ns0, true, _, rfl, s1.kn.trans s2.kn, S2, O1.go s2, hs0, hb0, (fun z => nomatch z), rfl, by have := msr_le P.fin.length ns0; rw [if_pos rfl]; omega⟩ ?_
    rintro m σ' A B ⟨ns, grown, z3, rfl, hE, S, O, hs, hb, hc, rfl, hl⟩
    refine ⟨grown, et_test (ev_var rfl (.bl _)), S.le, fun hg A3 B3 s3 => ?_, fun hg A3 B3 s3 => ?_⟩
    · subst hg
      have S3 := S.go s3
      have O3 := O.go s3
      have hE3 : Ex A0 A3 := hE.trans s3.kn
      obtain ⟨Sf, ef⟩ := S3.frz O3
      have hd : Dp K (upd A3 l (.lst (ns.map V.int))) (.ref l) (.list (ns.map PyData.int)) := .lst (SqL.of upd_same) (da_ints ns)
      have Rf := (R.mono hE3).mono ef
      refine st_newLc (K := K) P.tab.zipIdx (fun q => .tuple [.int (q.2 : Nat), eRT q.1]) (fun q => !decide (((q.2 : Nat) : Int) ∈ ns) && q.1.any (wl ns)) (fun q => .int (q.2 : Nat)) Sf (src_enumM ?_) (by rw [List.length_zipIdx]; omega) (fun q hq x A' B' e f px => ?_) fun l2 us A4 B4 s4 pus S4 O4 => ?_
      · walk_at "ev"
      · obtain ⟨u, v, pu, pv, hg⟩ := g_two px f
        have hrow := R.wf.row q.1 (List.mem_of_getElem? (List.mem_zipIdx_iff_getElem?.mp hq))
        refine ⟨_, hg, rfl, et_and (a := !decide (((q.2 : Nat) : Int) ∈ ns)) (et_test (ev_inL (neg := true) (ev_var rfl pu) (ev_var rfl (dp_mono e hd)))) (fun _ => et_B (ev_any_map ?_)), fun _ => ev_var rfl pu⟩
        refine ev_lc0 q.1 eW (fun w => .bool (wl ns w)) (src_tup (ds := q.1.map eW) (ev_var rfl pv)) (by omega) fun w hw y A5 B5 e5 f5 py => ⟨_, g_name, rfl, ?_⟩
        cases w with
        | none => exact ev_andV (a := false) (b := false) (ev_is1 (d := .none) (ev_var rfl py) (by walk_at "ev") rfl) fun z => nomatch z
        | some tx =>
          obtain ⟨t, z⟩ := tx
          replace py : Dp K A5 y (.tuple [.int (t : Nat), .str z]) := py
          exact ev_andV (a := true) (b := decide ((t : Int) ∈ ns)) (ev_is1 (d := .tuple [.int (t : Nat), .str z]) (ev_var rfl py) (by walk_at "ev") rfl) fun _ => ev_inL (neg := false) (by walk_at "ev") (ev_var rfl (dp_mono (e.trans e5) hd))
      have hms : ∃ ms : List Int, us = ms.map V.int ∧ (∀ s ∈ ms, ∃ (k : Nat) (r : List Way), s = k ∧ P.tab[k]? = some r ∧ (k : Int) ∉ ns ∧ r.any (wl ns) = true) ∧ (∀ (k : Nat) (r : List Way), P.tab[k]? = some r → r.any (wl ns) = true → (k : Int) ∉ ns → (k : Int) ∈ ms) ∧ ms.length ≤ 4 := by
        have e : ((P.tab.zipIdx.filter fun q => !decide (((q.2 : Nat) : Int) ∈ ns) && q.1.any (wl ns)).map fun q => PyData.int (q.2 : Nat)) = ((P.tab.zipIdx.filter fun q => !decide (((q.2 : Nat) : Int) ∈ ns) && q.1.any (wl ns)).map fun q => ((q.2 : Nat) : Int)).map PyData.int := by
          rw [List.map_map]
          rfl
        rw [e] at pus
        refine ⟨_, da_to_ints pus, ?_, ?_, ?_⟩
        · intro s hs
          rw [List.mem_map] at hs
          obtain ⟨⟨o, i⟩, ho, rfl⟩ := hs
          rw [List.mem_filter, List.mem_zipIdx_iff_getElem?, Bool.and_eq_true] at ho
          exact ⟨i, o, rfl, ho.1, by simpa using ho.2.1, ho.2.2⟩
        · intro k r hk ha hn
          rw [List.mem_map]
          refine ⟨(r, k), ?_, rfl⟩
          rw [List.mem_filter, List.mem_zipIdx_iff_getElem?, Bool.and_eq_true]
          exact ⟨hk, by simpa using hn, ha⟩
        · rw [List.length_map]
          have := List.length_filter_le (fun q : List Way × Nat => !decide (((q.2 : Nat) : Int) ∈ ns) && q.1.any (wl ns)) P.tab.zipIdx
          rw [List.length_zipIdx] at this
          omega
      obtain ⟨ms, rfl, hm1, hm2, hml⟩ := hms
      -- back to what was known
      have sb := s4.back ef
      have S5 := S3.go sb
      have O5 := O3.go sb
      have Om : Own A0 H A3 B4 l2 (.lst (ms.map V.int)) := ⟨O4.at_, O4.new, ex_none (ef.trans s4.kn) O4.unk⟩
      walk_at "nx"
      refine st_ext (K := K) (ev_ref rfl) (ev_ref rfl) S5 O5 Om (by rw [List.length_map, List.length_map]; omega) fun B6 s6 S6 O6 h6 => ?_
      have hne : l2 ≠ l := by
        intro e
        have h1 := s4.kn l _ upd_same
        rw [← e, O4.unk] at h1
        cases h1
      have O7 : Own A0 H A3 (upd B6 l (.lst (ns.map V.int ++ ms.map V.int))) l2 (.lst (ms.map V.int)) := ⟨by rw [upd_ne hne]; exact h6, Om.new, Om.unk⟩
      obtain ⟨S7, e7⟩ := S6.frz O7
      walk_at "nx"
      refine s_asg (K := K) S7 (ev_neD (x := .list (ms.map .int)) (y := .list []) (ev_var rfl (.lst (SqL.of upd_same) (da_ints ms))) (ev_lst ead_nil (Nat.zero_le _)) (ints_shaped ms) (ints_shaped [])) fun v A8 B8 s8 S8 p8 => ?_
      have ev := dp_bl p8
      subst ev
      have sb8 := s8.back e7
      have S9 := S6.go sb8
      have O9 := O6.go sb8
      rw [eqv_nilI]
      have hsound : ∀ s ∈ ns ++ ms, ∃ k : Nat, s = k ∧ Live P k := by
        intro s hs'
        rcases List.mem_append.mp hs' with h | h
        · exact hs s h
        · obtain ⟨k, r, rfl, hk, _, ha⟩ := hm1 s h
          rw [List.any_eq_true] at ha
          obtain ⟨w, hw, hwl⟩ := ha
          cases w with
          | none => cases hwl
          | some tx =>
            obtain ⟨t, x⟩ := tx
            have ht := of_decide_eq_true hwl
            obtain ⟨k2, e, hl2⟩ := hs _ ht
            have e : t = k2 := by omega
            subst e
            exact ⟨k, rfl, .way hk hw hl2⟩
      have hbase : ∀ (k : Nat) (x : Str), P.fin[k]? = some (some x) → (k : Int) ∈ ns ++ ms := fun k x h => List.mem_append.mpr (.inl (hb k x h))
      have hr : (if true = true then 1 else 0) = 1 := rfl
      have hb9 : B8 l = some (.lst ((ns ++ ms).map V.int)) := by rw [List.map_append]; exact O9.at_
      refine ⟨A3, _, ?_, ns ++ ms, !ms.isEmpty, _, rfl, hE3, S9, ⟨hb9, O9.new, O9.unk⟩, hsound, hbase, fun hg k t r x hk hw ht => ?_, rfl, ?_⟩
      · cases ms with
        | nil => simp
        | cons a b =>
          obtain ⟨k, r, e, hk, hn, _⟩ := hm1 a List.mem_cons_self
          subst e
          have hk2 := (List.getElem?_eq_some_iff.mp hk).1
          have := msr_lt (n := P.fin.length) (by omega) hn (List.mem_cons_self (a := (k : Int)) (l := b))
          simp
          omega
      · have e : ms = [] := by
          cases ms with
          | nil => rfl
          | cons a b => cases hg
        subst e
        rw [List.append_nil] at ht ⊢
        by_cases hn : (k : Int) ∈ ns
        · exact hn
        · exact nomatch hm2 k r hk (List.any_eq_true.mpr ⟨_, hw, decide_eq_true ht⟩) hn
      · rw [if_pos rfl] at hl
        rw [List.length_append]
        cases ms with
        | nil => simp at *; omega
        | cons a b =>
          obtain ⟨k, r, e, hk, hn, _⟩ := hm1 a List.mem_cons_self
          subst e
          have hk2 := (List.getElem?_eq_some_iff.mp hk).1
          have := msr_lt (n := P.fin.length) (by omega) hn (List.mem_cons_self (a := (k : Int)) (l := b))
          simp only [List.isEmpty_cons, Bool.not_false, if_pos]
          omega
    · subst hg
      have S3 := S.go s3
      have O3 := O.go s3
      obtain ⟨Sf, ef⟩ := S3.frz O3
      have hlive : ∀ k, Live P k → (k : Int) ∈ ns := by
        intro k hk
        induction hk with
        | fin h => exact hb _ _ h
        | way h1 h2 _ ih => exact hc rfl _ _ _ _ h1 h2 ih
      refine st_ret (ev_sortedI (ns := ns) (ev_var rfl (.lst (SqL.of upd_same) (da_ints ns))) (by omega)) Sf.le fun v A' B' s5 hv => ?_
      obtain ⟨ns', hp, pv⟩ := hv
      refine k ns' v A' B' (fun s => ?_) (Sf.s.trans s5) pv
      rw [hp.mem_iff]
      constructor
      · exact hs s
      · rintro ⟨k, rfl, hk⟩
        exact hlive k hk
end
-- W12
/-! ### a Comparison that is known -/
def cfs (p q : Addr) (vl : V) : List (Str × V) := [("_first", .ref p), ("_second", .ref q), ("_live", vl)]
theorem cfs1 {p q : Addr} {vl : V} : (cfs p q vl).lookup ("_first" : Str) = some (.ref p) := lk_eq
theorem cfs2 {p q : Addr} {vl : V} : (cfs p q vl).lookup ("_second" : Str) = some (.ref q) := (lk_ne (by decide +kernel)).trans lk_eq
theorem cfs3 {p q : Addr} {vl : V} : (cfs p q vl).lookup ("_live" : Str) = some vl := (lk_ne (by decide +kernel)).trans ((lk_ne (by decide +kernel)).trans lk_eq)
theorem cfs0 {p q : Addr} {vl : V} {m : Str} (h1 : (m == ("_first" : Str)) = false) (h2 : (m == ("_second" : Str)) = false) (h3 : (m == ("_live" : Str)) = false) : (cfs p q vl).lookup m = none :=
  (lk_ne h1).trans ((lk_ne h2).trans (lk_ne h3))
def LiveL (P : Rw) (ns : List Int) : Prop := ∀ s : Int, s ∈ ns ↔ ∃ k : Nat, s = k ∧ Live P k
structure CmAt (K : PySem.W.Frag) (CR CC : Addr) (A : Hp) (c p q : Addr) (L : Str) (F S : Rw) (nf ns : List Int) : Prop where
  ex : ∃ (dx : Addr) (vl : V), A c = some (.ins CC dx (cfs p q vl)) ∧ Dp K A vl (.tuple [.list (nf.map .int), .list (ns.map .int)])
  rf : RwAt K CR A p L F
  rs : RwAt K CR A q L S
  lf : LiveL F nf
  ls : LiveL S ns
theorem LiveL.at {P : Rw} {ns : List Int} (h : LiveL P ns) (k : Nat) : (k : Int) ∈ ns ↔ Live P k := by
  rw [h]
  constructor
  · rintro ⟨j, e, hj⟩
    have e : k = j := by omega
    exact e ▸ hj
  · exact fun hk => ⟨k, rfl, hk⟩
/-! ### tuples of plain values -/
def HTV (vs : List V) : Hp → V → Prop := fun A v => ∃ a, v = .ref a ∧ A a = some (.tup vs)
theorem mon_t {vs : List V} : Mon (HTV vs) := fun _ _ _ e ⟨a, h1, h2⟩ => ⟨a, h1, e _ _ h2⟩
def vO : Option Nat → V
  | none => .non
  | some k => .int k
def eO : Option Nat → PyData
  | none => .none
  | some k => .int k
theorem dp_O {K : PySem.W.Frag} {A : Hp} (o : Option Nat) : Dp K A (vO o) (eO o) := by cases o; exact .non; exact .int _
theorem dp_Oi {K : PySem.W.Frag} {A : Hp} {o : Option Nat} {v : V} (h : Dp K A v (eO o)) : v = vO o := by
  cases o with
  | none => exact dp_non h
  | some k => exact dp_int h
/-- a spot, as values -/
def spV (o1 o2 : Option Nat) (x y : Str) : List V := match o1, o2 with
  | some a, some b => [.int a, .int b, .str (ow x y).1, .str (ow x y).2]
  | _, _ => [vO o1, vO o2, .str "", .str ""]
def eSp (o1 o2 : Option Nat) (a b : Str) : PyData := .tuple [eO o1, eO o2, .str a, .str b]
section
variable {K : PySem.W.Frag} {CR CC : Addr} {σ : L2.St} {A A' : Hp} {te ta tb : TE} {c p q : Addr} {L : Str} {F S : Rw} {nf ns : List Int} {tA : TA}
theorem CmAt.mono (e : Ex A A') (h : CmAt K CR CC A c p q L F S nf ns) : CmAt K CR CC A' c p q L F S nf ns := by
  obtain ⟨⟨dx, vl, h1, h2⟩, h3, h4, h5, h6⟩ := h
  exact ⟨⟨dx, vl, e _ _ h1, dp_mono e h2⟩, h3.mono e, h4.mono e, h5, h6⟩
theorem ev_first (T : Txt K CR CC) (C : CmAt K CR CC A c p q L F S nf ns) (ho : EvP te σ A fun _ v => v = .ref c) : EvP (tFld K te "_first") σ A fun _ v => v = .ref p := by
  obtain ⟨dx, vl, h1, h2⟩ := C.ex
  exact ev_fld ho h1 T.cc T.c1 cfs1 fun _ _ => rfl
theorem ev_second (T : Txt K CR CC) (C : CmAt K CR CC A c p q L F S nf ns) (ho : EvP te σ A fun _ v => v = .ref c) : EvP (tFld K te "_second") σ A fun _ v => v = .ref q := by
  obtain ⟨dx, vl, h1, h2⟩ := C.ex
  exact ev_fld ho h1 T.cc T.c2 cfs2 fun _ _ => rfl
theorem ev_live (T : Txt K CR CC) (C : CmAt K CR CC A c p q L F S nf ns) (ho : EvP te σ A fun _ v => v = .ref c) : EvD K (tFld K te "_live") σ A (.tuple [.list (nf.map .int), .list (ns.map .int)]) := by
  obtain ⟨dx, vl, h1, h2⟩ := C.ex
  exact ev_fld ho h1 T.cc T.c3 cfs3 fun A e => dp_mono e h2
theorem ev_live0 (T : Txt K CR CC) (C : CmAt K CR CC A c p q L F S nf ns) (ho : EvP te σ A fun _ v => v = .ref c) : EvD K (tOp (rIx K) (tFld K te "_live") (tC (.int 0))) σ A (.list (nf.map .int)) := ev_ixT (ds := [.list (nf.map .int), .list (ns.map .int)]) (j := 0) (ev_live T C ho) (ev_c fun _ => .int _) rfl rfl
theorem ev_live1 (T : Txt K CR CC) (C : CmAt K CR CC A c p q L F S nf ns) (ho : EvP te σ A fun _ v => v = .ref c) : EvD K (tOp (rIx K) (tFld K te "_live") (tC (.int 1))) σ A (.list (ns.map .int)) := ev_ixT (ds := [.list (nf.map .int), .list (ns.map .int)]) (j := 1) (ev_live T C ho) (ev_c fun _ => .int _) rfl rfl
/-- a tuple of values that are told exactly -/
theorem ev_tup4 {t1 t2 t3 t4 : TE} {v1 v2 v3 v4 : V} (h1 : EvP t1 σ A (isV v1)) (h2 : EvP t2 σ A (isV v2)) (h3 : EvP t3 σ A (isV v3)) (h4 : EvP t4 σ A (isV v4)) : EvP (tTup (tCons t1 (tCons t2 (tCons t3 (tCons t4 tNil))))) σ A (HTV [v1, v2, v3, v4]) := fun A1 B1 a b Q k =>
  eap_cons h1 mon_v (eap_cons h2 mon_v (eap_cons h3 mon_v (eap_cons h4 mon_v eap_nil))) A1 B1 a b _ fun vs A2 B2 s r => by
    obtain ⟨u1, u2, u3, u4, rfl, rfl, rfl, rfl, rfl⟩ := ps_four r
    exact ⟨by show (4 : Nat) ≤ sizeLine; decide, fun x hx => k _ (upd A2 x (.tup _)) _ (s.trans (.new s.le hx)) ⟨x, rfl, upd_same⟩⟩
theorem ev_tupP2 {t1 t2 : TE} {P1 P2 : Hp → V → Prop} (h1 : EvP t1 σ A P1) (h2 : EvP t2 σ A P2) (m1 : Mon P1) (m2 : Mon P2) : EvP (tTup (tCons t1 (tCons t2 tNil))) σ A fun A v => ∃ a u w, v = .ref a ∧ A a = some (.tup [u, w]) ∧ P1 A u ∧ P2 A w := fun A1 B1 a b Q k =>
  eap_cons h1 m1 (eap_cons h2 m2 eap_nil) A1 B1 a b _ fun vs A2 B2 s r => by
    obtain ⟨u1, u2, rfl, r1, r2⟩ := ps_two r
    refine ⟨by show (2 : Nat) ≤ sizeLine; decide, fun x hx => k _ (upd A2 x (.tup _)) _ (s.trans (.new s.le hx)) ⟨x, u1, u2, rfl, upd_same, ?_, ?_⟩⟩
    · exact m1 _ _ _ (StpM.new (M := fun _ => False) s.le hx).kn r1
    · exact m2 _ _ _ (StpM.new (M := fun _ => False) s.le hx).kn r2
theorem ev_vint {i : Int} (h : EvD K te σ A (.int i)) : EvP te σ A (isV (.int i)) := h.imp fun _ _ _ p => dp_int p
theorem ev_vstr {x : Str} (h : EvD K te σ A (.str x)) : EvP te σ A (isV (.str x)) := h.imp fun _ _ _ p => dp_str p
theorem ev_vnon (h : EvD K te σ A .none) : EvP te σ A (isV .non) := h.imp fun _ _ _ p => dp_non p
theorem ev_vO {o : Option Nat} (h : EvD K te σ A (eO o)) : EvP te σ A (isV (vO o)) := h.imp fun _ _ _ p => dp_Oi p
theorem ev_ofV {v : V} {d : PyData} (h : EvP te σ A (isV v)) (hd : ∀ A, Dp K A v d) : EvD K te σ A d := h.imp fun A _ _ p => p ▸ hd A
end
def RetP (A B : Hp) (Q : VK) (P : Hp → V → Prop) : Prop := ∀ v A' B', Stp A B A' B' → P A' v → Q v B'
theorem s_retP {te : TE} {σ : L2.St} {D : Ends} {A0 B0 A B : Hp} {P : Hp → V → Prop} (S : Tot (fun _ => False) A0 B0 A B) (k : RetP A0 B0 D.rt P) (h : EvP te σ A P) : tRet te D σ B :=
  h A B (Ex.refl _) S.le _ fun v A1 B1 s p => k v A1 B1 (S.s.trans s) p
def sp_Cm_init (K : PySem.W.Frag) (CR CC : Addr) : Sp := fun vs H Q _ => ∃ (A B : Hp) (c dx p q : Addr) (L : Str) (F S : Rw), vs = [.ref c, .ref p, .ref q] ∧ Tot (fun _ => False) A B A H ∧ Own A B A H c (.ins CC dx []) ∧ RwAt K CR A p L F ∧ RwAt K CR A q L S ∧
  (∀ A' B' nf ns, Tot (fun _ => False) A B A' B' → CmAt K CR CC A' c p q L F S nf ns → Q .non B')
def goneL (P : Rw) (ns : List Int) : List Int := ((List.range P.fin.length).filter fun k : Nat => !decide ((k : Int) ∈ ns)).map fun k : Nat => (k : Int)
def sp_Cm_gone (K : PySem.W.Frag) (CR CC : Addr) : Sp := fun vs H Q _ => ∃ (A : Hp) (c p q : Addr) (L : Str) (F S : Rw) (nf ns : List Int), vs = [.ref c] ∧ Ex A H ∧ CmAt K CR CC A c p q L F S nf ns ∧ Ret K A H Q (.tuple [.tuple ((goneL F nf).map .int), .tuple ((goneL S ns).map .int)])
def sp_Cm_spot (K : PySem.W.Frag) (CR CC : Addr) : Sp := fun vs H Q _ => ∃ (A : Hp) (c : Addr) (o1 o2 : Option Nat) (x y : Str), vs = [.ref c, vO o1, vO o2, .str x, .str y] ∧ Ex A H ∧ x.length ≤ 1000 ∧ y.length ≤ 1000 ∧ (o1 ≠ none → o2 ≠ none → (ow x y).2 = "") ∧ RetP A H Q (HTV (spV o1 o2 x y))
def o0 (ns : List Int) : Option Nat := if decide ((0 : Int) ∈ ns) then some 0 else none
def sp_Cm_start (K : PySem.W.Frag) (CR CC : Addr) : Sp := fun vs H Q _ => ∃ (A : Hp) (c p q : Addr) (L : Str) (F S : Rw) (nf ns : List Int), vs = [.ref c] ∧ Ex A H ∧ CmAt K CR CC A c p q L F S nf ns ∧ (o0 nf ≠ none → o0 ns ≠ none → (ow F.lead S.lead).2 = "") ∧ RetP A H Q (HTV (spV (o0 nf) (o0 ns) F.lead S.lead))
def lw (P : Rw) (ns : List Int) (o : Option Nat) (j : Nat) : Way := match o with
  | none => none
  | some k => if stops (wayAt P (k : Int) j) ns then wayAt P (k : Int) j else none
def stV (w1 w2 : Way) (a b : Str) : List V := match w1, w2 with
  | some (t, x), some (u, y) => spV (some t) (some u) (a ++ x) (b ++ y)
  | _, _ => [vO (w1.map (·.1)), vO (w2.map (·.1)), .str "", .str ""]
def sp_Cm_step (K : PySem.W.Frag) (CR CC : Addr) : Sp := fun vs H Q _ => ∃ (A : Hp) (c p q : Addr) (L : Str) (F S : Rw) (nf ns : List Int) (o1 o2 : Option Nat) (a b : Str) (v : V) (j z : Nat), vs = [.ref c, v, .str ⟨#[z]⟩] ∧ Ex A H ∧ CmAt K CR CC A c p q L F S nf ns ∧ Dp K A v (eSp o1 o2 a b) ∧
  (∀ k, o1 = some k → k < F.fin.length) ∧ (∀ k, o2 = some k → k < S.fin.length) ∧ (tl L)[j]? = some z ∧ a.length ≤ 100 ∧ b.length ≤ 100 ∧
  (∀ t x u y, lw F nf o1 j = some (t, x) → lw S ns o2 j = some (u, y) → (ow (a ++ x) (b ++ y)).2 = "") ∧ RetP A H Q (HTV (stV (lw F nf o1 j) (lw S ns o2 j) a b))
def fO (P : Rw) : Option Nat → Option Str
  | none => none
  | some k => finAt P (k : Int)
def sp_Cm_differs (K : PySem.W.Frag) (CR CC : Addr) : Sp := fun vs H Q _ => ∃ (A : Hp) (c p q : Addr) (L : Str) (F S : Rw) (nf ns : List Int) (o1 o2 : Option Nat) (a b : Str) (v : V), vs = [.ref c, v] ∧ Ex A H ∧ CmAt K CR CC A c p q L F S nf ns ∧ Dp K A v (eSp o1 o2 a b) ∧
  (∀ k, o1 = some k → k < F.fin.length) ∧ (∀ k, o2 = some k → k < S.fin.length) ∧ a.length ≤ 100 ∧ b.length ≤ 100 ∧ Ret K A H Q (.bool (!endsOK (fO F o1) (fO S o2) a b))
section
variable {P : Program} {w : World} {K : PySem.W.Frag} {mg : Str → Option Value} {base : Heap} {CR CC : Addr}
theorem ev_livest {σ : L2.St} {A : Hp} {te : TE} {p : Addr} {L : Str} {F : Rw} (R : RwAt K CR A p L F) (ho : EvP te σ A fun _ v => v = .ref p) : EvP (tCall (sp_live_states K CR CC) [] E0 (tCons te tNil)) σ A fun A v => ∃ ns, LiveL F ns ∧ Dp K A v (.list (ns.map .int)) := by
  refine ev_call (R := fun A vs => PsAt A [isV (.ref p)] vs) (eap_cons ho mon_v eap_nil) fun A B vs e f r Q k => ?_
  obtain ⟨v, rfl, rfl⟩ := ps_one r
  exact ⟨A, p, L, F, rfl, f, R.mono e, fun ns v A' B' h s d => k v A' B' s ⟨ns, h, d⟩⟩
theorem ok_Cm_init (Bm : Bl mg) (T : Txt K CR CC) (O_live_states : OkF P w K mg base 1 "live_states" ["rewriter"] (sp_live_states K CR CC)) (F : DefC K mg CC "Comparison" "Comparison.__init__" s_Cm_init ["self", "first", "second"]) : OkC P w K mg base 2 "Comparison" CC ["self", "first", "second"] (sp_Cm_init K CR CC) := by
  refine okC_of F sc_Cm_init (fun vs H Q E h => ?_) (fun f cdv Ar outer s H vs Q E hr h => ?_)
  · obtain ⟨A, B, c, dx, p, q, L, F, S, rfl, _⟩ := h
    rfl
  · obtain ⟨A0, B0, c, dx, p, q, L, F, S, rfl, S0, O0, RF, RS, k⟩ := h
    have hu := hu_of hr
    refine ⟨_, (pss_cons (ps_fld (pv 0) (pv 1) rfl)
      (pss_cons (ps_fld (pv 0) (pv 2) rfl)
      (pss_one (ps_fld (pv 0) (pe_tup (pa_cons (pe_F O_live_states (hr.mono (by decide)) rfl (pa_cons (pv 1) pa_nil)) (pa_cons (pe_F O_live_states (hr.mono (by decide)) rfl (pa_cons (pv 2) pa_nil)) pa_nil))) rfl)))), ?_⟩
    refine st_fld (K := K) (P := isV (.ref p)) (ev_ref rfl) (by walk_at "ref") S0 O0 T.cc T.c1 (by decide) fun v A1 B1 s1 p1 S1 O1 => ?_
    subst p1
    have n1 := len_putF ("_first" : Str) (.ref p) []
    walk_at "nx"
    refine st_fld (K := K) (P := isV (.ref q)) (ev_ref rfl) (by walk_at "ref") S1 O1 T.cc T.c2 (Nat.lt_of_le_of_lt n1 (by decide)) fun v A2 B2 s2 p2 S2 O2 => ?_
    subst p2
    have n2 := len_putF ("_second" : Str) (.ref q) (putF ("_first" : Str) (.ref p) [])
    walk_at "nx"
    have hE2 : Ex A0 A2 := s1.kn.trans s2.kn
    have m1 : Mon (fun A v => ∃ ns, LiveL F ns ∧ Dp K A v (.list (ns.map .int))) := fun _ _ _ e ⟨ns, h, d⟩ => ⟨ns, h, dp_mono e d⟩
    have m2 : Mon (fun A v => ∃ ns, LiveL S ns ∧ Dp K A v (.list (ns.map .int))) := fun _ _ _ e ⟨ns, h, d⟩ => ⟨ns, h, dp_mono e d⟩
    refine st_fld (K := K) (ev_ref rfl) (ev_tupP2 (ev_livest (RF.mono hE2) (by walk_at "ref")) (ev_livest (RS.mono hE2) (by walk_at "ref")) m1 m2) S2 O2 T.cc T.c3 (by have : ([] : List (Str × V)).length = 0 := rfl; omega) fun v3 A3 B3 s3 p3 S3 O3 => ?_
    obtain ⟨l, u, x, rfl, hl, ⟨nf, hnf, du⟩, ⟨ns, hns, dx2⟩⟩ := p3
    have e : putF ("_live" : Str) (.ref l) (putF ("_second" : Str) (.ref q) (putF ("_first" : Str) (.ref p) [])) = cfs p q (.ref l) := by
      have e1 : putF ("_first" : Str) (.ref p) [] = [(("_first" : Str), V.ref p)] := rfl
      have e2 : putF ("_second" : Str) (.ref q) [(("_first" : Str), V.ref p)] = [(("_first" : Str), V.ref p), (("_second" : Str), V.ref q)] := put_ne (by decide +kernel)
      have e3 : putF ("_live" : Str) (.ref l) [(("_first" : Str), V.ref p), (("_second" : Str), V.ref q)] = [(("_first" : Str), V.ref p), (("_second" : Str), V.ref q), (("_live" : Str), .ref l)] := (put_ne (by decide +kernel)).trans (congrArg _ (put_ne (by decide +kernel)))
      rw [e1, e2, e3]
      rfl
    rw [e] at O3 S3
    rw [e]
    obtain ⟨S5, e5⟩ := S3.frz O3
    have hE5 : Ex A0 (upd A3 c (.ins CC dx (cfs p q (.ref l)))) := (hE2.trans s3.kn).trans e5
    exact k _ _ nf ns S5 ⟨⟨dx, .ref l, upd_same, .tup (SqT.of (e5 _ _ hl)) (.cons (dp_mono e5 du) (.cons (dp_mono e5 dx2) .nil))⟩, RF.mono hE5, RS.mono hE5, hnf, hns⟩
theorem ok_Cm_gone (Bm : Bl mg) (T : Txt K CR CC)  (F : DefM K CC "gone" "Comparison.gone" s_Cm_gone ["self"]) : OkM P w K mg base 1 CC "gone" ["self"] (sp_Cm_gone K CR CC) := by
  refine okM_of F sc_Cm_gone (fun vs H Q E h => ?_) (fun f cdv Ar outer s H vs Q E hr h => ?_)
  · obtain ⟨A, c, p, q, L, F, S, nf, ns, rfl, _⟩ := h
    rfl
  · obtain ⟨A0, c, p, q, L, F, S, nf, ns, rfl, hx, C, k⟩ := h
    have hu := hu_of hr
    refine ⟨_, (pss_one (ps_ret (pe_tup (pa_cons (b_tuple K rfl Bm.m_tuple (pa_cons (pe_lc (own := [("k", 1)]) rfl sc_Cm_gone.nd (pi_range1 rfl Bm.m_range (pa_cons (b_len K rfl Bm.m_len (pa_cons (fld_K K (fld_K K (pv 0))) pa_nil)) pa_nil)) (blkOk_by (N := N_Cm_gone) (sc := defScope s_Cm_gone) (by decide +kernel)) (fun _ _ _ _ _ => (pg_name (i := 1) sc_Cm_gone.nd rfl (by first | exact Or.inl rfl | exact Or.inr rfl))) (fun _ _ _ _ _ => (pts_one (pt_cmpR (ni_K K hr) (pv 1) (pe_ix (ix_K K) (fld_K K (pv 0)) pe_int (fun _ _ => rfl)) (by rfl)))) (fun _ _ _ _ _ => (pv 1))) pa_nil)) (pa_cons (b_tuple K rfl Bm.m_tuple (pa_cons (pe_lc (own := [("k", 1)]) rfl sc_Cm_gone.nd (pi_range1 rfl Bm.m_range (pa_cons (b_len K rfl Bm.m_len (pa_cons (fld_K K (fld_K K (pv 0))) pa_nil)) pa_nil)) (blkOk_by (N := N_Cm_gone) (sc := defScope s_Cm_gone) (by decide +kernel)) (fun _ _ _ _ _ => (pg_name (i := 1) sc_Cm_gone.nd rfl (by first | exact Or.inl rfl | exact Or.inr rfl))) (fun _ _ _ _ _ => (pts_one (pt_cmpR (ni_K K hr) (pv 1) (pe_ix (ix_K K) (fld_K K (pv 0)) pe_int (fun _ _ => rfl)) (by rfl)))) (fun _ _ _ _ _ => (pv 1))) pa_nil)) pa_nil))))), ?_⟩
    have S0 : Tot (fun _ => False) A0 H A0 H := .refl hx
    have RF := C.rf
    have RS := C.rs
    have b1 := RF.wf.max
    have b2 := RS.wf.max
    walk_at "ret"
    refine ev_tup (ead_cons (ev_tupOfL ?_) (ead_cons (ev_tupOfL ?_) ead_nil)) (Nat.le_of_ble_eq_true rfl)
    · have h := ev_lc (K := K) (σ := [some (.ref c), none]) (A0 := A0) (vs := [1]) (g := gName 1) (te := tVar 1) (wi := iRng1 (tCons (tCB (rLen K) (tCons (tFld K (tFld K (tVar 0) "_first") "finals") tNil)) tNil)) (tt := tTest (tOp (rInA K true) (tVar 1) (tOp (rIx K) (tFld K (tVar 0) "_live") (tC (.int 0))))) (List.range F.fin.length) (fun k => .int (k : Nat)) (fun k : Nat => !decide ((k : Int) ∈ nf)) (fun k => .int (k : Nat)) (src_range1 (ev_is (ev_len (ev_fin T RF (ev_first T C (by walk_at "ref"))) rfl) (by rw [List.length_map])) (by omega)) (by rw [List.length_range]; omega) fun a ha x A B e f px => ⟨_, g_name, rfl, et_test (ev_inL (neg := true) (by walk_at "ev") (ev_live0 T (C.mono e) (by walk_at "ref"))), fun _ => by walk_at "ev"⟩
      have e : ((List.range F.fin.length).filter fun k : Nat => !decide ((k : Int) ∈ nf)).map (fun k => PyData.int (k : Nat)) = (goneL F nf).map .int := by
        unfold goneL
        rw [List.map_map]
        rfl
      rw [e] at h
      exact h
    · have h := ev_lc (K := K) (σ := [some (.ref c), none]) (A0 := A0) (vs := [1]) (g := gName 1) (te := tVar 1) (wi := iRng1 (tCons (tCB (rLen K) (tCons (tFld K (tFld K (tVar 0) "_second") "finals") tNil)) tNil)) (tt := tTest (tOp (rInA K true) (tVar 1) (tOp (rIx K) (tFld K (tVar 0) "_live") (tC (.int 1))))) (List.range S.fin.length) (fun k => .int (k : Nat)) (fun k : Nat => !decide ((k : Int) ∈ ns)) (fun k => .int (k : Nat)) (src_range1 (ev_is (ev_len (ev_fin T RS (ev_second T C (by walk_at "ref"))) rfl) (by rw [List.length_map])) (by omega)) (by rw [List.length_range]; omega) fun a ha x A B e f px => ⟨_, g_name, rfl, et_test (ev_inL (neg := true) (by walk_at "ev") (ev_live1 T (C.mono e) (by walk_at "ref"))), fun _ => by walk_at "ev"⟩
      have e : ((List.range S.fin.length).filter fun k : Nat => !decide ((k : Int) ∈ ns)).map (fun k => PyData.int (k : Nat)) = (goneL S ns).map .int := by
        unfold goneL
        rw [List.map_map]
        rfl
      rw [e] at h
      exact h
end
-- W13
section
variable {P : Program} {w : World} {K : PySem.W.Frag} {mg : Str → Option Value} {base : Heap} {CR CC : Addr}
section
variable {σ : L2.St} {A : Hp} {t1 t2 t3 t4 to te : TE} {c p q : Addr} {L : Str} {F S : Rw} {nf ns : List Int}
theorem ev_cv {v : V} : EvP (tC v) σ A (isV v) := fun A1 B1 _ b Q q => q v A1 B1 (.refl b) rfl
theorem et_isOr {d1 d2 : PyData} (h1 : EvD K t1 σ A d1) (h2 : EvD K t2 σ A d2) : EvT K (tOr (tTest (tOp rIs0 t1 (tC .non))) (tTest (tOp rIs0 t2 (tC .non)))) σ A (isN d1 || isN d2) :=
  et_or (et_test (ev_is0 h1 (ev_c fun _ => .non) rfl)) fun _ => et_test (ev_is0 h2 (ev_c fun _ => .non) rfl)
theorem ev_spotM {o1 o2 : Option Nat} {x y : Str} (C : CmAt K CR CC A c p q L F S nf ns) (ho : EvP to σ A fun _ v => v = .ref c) (h1 : EvP t1 σ A (isV (vO o1))) (h2 : EvP t2 σ A (isV (vO o2))) (h3 : EvD K t3 σ A (.str x)) (h4 : EvD K t4 σ A (.str y)) (lx : x.length ≤ 1000) (ly : y.length ≤ 1000) (hc : o1 ≠ none → o2 ≠ none → (ow x y).2 = "") :
    EvP (tMeth CC "_spot" (sp_Cm_spot K CR CC) [] E0 to (tCons t1 (tCons t2 (tCons t3 (tCons t4 tNil))))) σ A (HTV (spV o1 o2 x y)) := by
  obtain ⟨dx, vl, i1, i2⟩ := C.ex
  refine ev_meth (R := fun A vs => PsAt A [isV (vO o1), isV (vO o2), isD K (.str x), isD K (.str y)] vs) ho i1 (cfs0 (by decide +kernel) (by decide +kernel) (by decide +kernel)) (eap_cons h1 mon_v (eap_cons h2 mon_v (eap_cons h3 mon_d (eap_cons h4 mon_d eap_nil)))) fun A B vs e f r Q k => ?_
  obtain ⟨v1, v2, v3, v4, rfl, rfl, rfl, r3, r4⟩ := ps_four r
  exact ⟨A, c, o1, o2, x, y, by rw [dp_str r3, dp_str r4], f, lx, ly, hc, fun v A' B' s p => k v A' B' s p⟩
theorem ev_lway {p : Addr} {L : Str} {F : Rw} {nf : List Int} {j z : Nat} {k : Nat} (R : RwAt K CR A p L F) (h1 : EvP t1 σ A fun _ v => v = .ref p) (h2 : EvD K t2 σ A (.list (nf.map .int))) (h3 : EvD K t3 σ A (.int (k : Nat))) (h4 : EvD K t4 σ A (.str ⟨#[z]⟩)) (hk : k < F.fin.length) (hj : (tl L)[j]? = some z) :
    EvD K (tCall (sp_live_way K CR CC) [] E0 (tCons t1 (tCons t2 (tCons t3 (tCons t4 tNil))))) σ A (eW (lw F nf (some k) j)) := by
  refine ev_call (R := fun A vs => PsAt A [isV (.ref p), isD K (.list (nf.map .int)), isD K (.int (k : Nat)), isD K (.str ⟨#[z]⟩)] vs) (eap_cons h1 mon_v (eap_cons h2 mon_d (eap_cons h3 mon_d (eap_cons h4 mon_d eap_nil)))) fun A B vs e f r Q kk => ?_
  obtain ⟨v1, v2, v3, v4, rfl, rfl, r2, r3, r4⟩ := ps_four r
  exact ⟨A, p, L, F, v2, nf, (k : Int), j, z, by rw [dp_int r3, dp_str r4], f, R.mono e, r2, by omega, by omega, hj, kk⟩
theorem ev_way0 {w : Way} (h : EvD K te σ A (eW w)) : EvP (tIf (tTest (tOp rIs0 te (tC .non))) (tC .non) (tOp (rIx K) te (tC (.int 0)))) σ A (isV (vO (w.map (·.1)))) := by
  cases w with
  | none => exact ev_if (b := true) (et_test (ev_is0 h (ev_c fun _ => .non) rfl)) (fun _ => ev_cv) fun z => nomatch z
  | some tx =>
    obtain ⟨t, x⟩ := tx
    exact ev_if (b := false) (et_test (ev_is0 h (ev_c fun _ => .non) rfl)) (fun z => nomatch z) fun _ => ev_vint (ev_ixT (ds := [.int (t : Nat), .str x]) (j := 0) h (ev_c fun _ => .int _) rfl rfl)
end
theorem ok_Cm_spot (Bm : Bl mg) (T : Txt K CR CC) (O_owed : OkF P w K mg base 2 "owed" ["first", "second"] (sp_owed K CR CC)) (F : DefM K CC "_spot" "Comparison._spot" s_Cm_spot ["self", "one", "other", "ahead", "behind"]) : OkM P w K mg base 3 CC "_spot" ["self", "one", "other", "ahead", "behind"] (sp_Cm_spot K CR CC) := by
  refine okM_of F sc_Cm_spot (fun vs H Q E h => ?_) (fun f cdv Ar outer s H vs Q E hr h => ?_)
  · obtain ⟨A, c, o1, o2, x, y, rfl, _⟩ := h
    rfl
  · obtain ⟨A0, c, o1, o2, x, y, rfl, hx, lx, ly, hc, k⟩ := h
    have hu := hu_of hr
    refine ⟨_, (pss_cons (ps_if (PW.pt (pw_or (pt_cmpR isN_R (pv 1) pe_non (nomark _)) (pw_or1 (pt_cmpR isN_R (pv 2) pe_non (nomark _))))) (pss_one (ps_ret (pe_tup (pa_cons (pv 1) (pa_cons (pv 2) (pa_cons pe_str (pa_cons pe_str pa_nil))))))) pss_nil)
      (pss_cons (ps_asg (pe_F O_owed (hr.mono (by decide)) rfl (pa_cons (pv 3) (pa_cons (pv 4) pa_nil))) (gtup_K K (n := 2) rfl (pgs_cons (pg_name (i := 3) sc_Cm_spot.nd rfl (by first | exact Or.inl rfl | exact Or.inr rfl)) (pgs_cons (pg_name (i := 4) sc_Cm_spot.nd rfl (by first | exact Or.inl rfl | exact Or.inr rfl)) pgs_nil))))
      (pss_one (ps_ret (pe_ifExp (PW.pt (pw_and (pt_cmpR (ne_K K hr) (pv 3) pe_str (nomark _)) (pw_and1 (pt_cmpR (ne_K K hr) (pv 4) pe_str (nomark _))))) (pe_tup (pa_cons (pv 1) (pa_cons (pv 2) (pa_cons pe_non (pa_cons pe_non pa_nil))))) (pe_tup (pa_cons (pv 1) (pa_cons (pv 2) (pa_cons (pv 3) (pa_cons (pv 4) pa_nil)))))))))), ?_⟩
    have S0 : Tot (fun _ => False) A0 H A0 H := .refl hx
    have d1 : Dp K A0 (vO o1) (eO o1) := dp_O o1
    have d2 : Dp K A0 (vO o2) (eO o2) := dp_O o2
    refine s_if (K := K) (b := isN (eO o1) || isN (eO o2)) S0 (et_isOr (ev_var rfl d1) (ev_var rfl d2)) (fun hb A1 B1 s1 S1 => ?_) (fun hb A1 B1 s1 S1 => ?_)
    · have e : spV o1 o2 x y = [vO o1, vO o2, .str "", .str ""] := by
        cases o1 <;> cases o2 <;> first | rfl | cases hb
      rw [e] at k
      exact s_retP S1 k (ev_tup4 (by walk_at "ref") (by walk_at "ref") ev_cv ev_cv)
    · obtain ⟨a, rfl⟩ : ∃ a, o1 = some a := by cases o1 with | none => cases hb | some a => exact ⟨a, rfl⟩
      obtain ⟨b, rfl⟩ : ∃ b, o2 = some b := by cases o2 with | none => cases hb | some a => exact ⟨a, rfl⟩
      walk_at "nx"
      refine s_unp (K := K) S1 (ds := [.str (ow x y).1, .str (ow x y).2]) (ev_owed (sp := sp_owed K CR CC) (fun vs H Q h => h) (by walk_at "ev") (by walk_at "ev") lx ly) rfl fun vs A2 B2 s2 S2 p2 => ?_
      obtain ⟨u, v, rfl, q1, q2⟩ := da_two p2
      refine ⟨u, [v], rfl, v, [], rfl, rfl, ?_⟩
      have e1 := dp_str q1
      have e2 := dp_str q2
      subst e1 e2
      have hb := hc (by simp) (by simp)
      rw [hb]
      have e : spV (some a) (some b) x y = [.int a, .int b, .str (ow x y).1, .str ""] := by
        show [V.int a, .int b, .str (ow x y).1, .str (ow x y).2] = _
        rw [hb]
      rw [e] at k
      walk_at "nx"
      refine s_retP S2 k (ev_if (b := false) (et_is (et_and (a := !decide ((ow x y).1 = "")) (b := false) (et_test (ev_neS (by walk_at "ev") (by walk_at "ev") rfl)) fun _ => et_is (b := !decide (("" : Str) = "")) (et_test (ev_neS (by walk_at "ev") (by walk_at "ev") rfl)) (by simp)) (by simp)) (fun z => nomatch z) fun _ => ?_)
      exact ev_tup4 (by walk_at "ref") (by walk_at "ref") (by walk_at "ref") (by walk_at "ref")
theorem ok_Cm_start (Bm : Bl mg) (T : Txt K CR CC) (O_Cm_spot : OkM P w K mg base 3 CC "_spot" ["self", "one", "other", "ahead", "behind"] (sp_Cm_spot K CR CC)) (F : DefM K CC "start" "Comparison.start" s_Cm_start ["self"]) : OkM P w K mg base 4 CC "start" ["self"] (sp_Cm_start K CR CC) := by
  refine okM_of F sc_Cm_start (fun vs H Q E h => ?_) (fun f cdv Ar outer s H vs Q E hr h => ?_)
  · obtain ⟨A, c, p, q, L, F, S, nf, ns, rfl, _⟩ := h
    rfl
  · obtain ⟨A0, c, p, q, L, F, S, nf, ns, rfl, hx, C, hc, k⟩ := h
    have hu := hu_of hr
    refine ⟨_, (pss_cons (ps_set (i := 1) sc_Cm_start.nd rfl (Or.inl rfl) (pe_ifExp (pt_cmpR (in_K K hr) pe_int (pe_ix (ix_K K) (fld_K K (pv 0)) pe_int (fun _ _ => rfl)) (by rfl)) pe_int pe_non))
      (pss_cons (ps_set (i := 2) sc_Cm_start.nd rfl (Or.inl rfl) (pe_ifExp (pt_cmpR (in_K K hr) pe_int (pe_ix (ix_K K) (fld_K K (pv 0)) pe_int (fun _ _ => rfl)) (by rfl)) pe_int pe_non))
      (pss_one (ps_ret (pe_D O_Cm_spot (hr.mono (by decide)) (pv 0) (pa_cons (pv 1) (pa_cons (pv 2) (pa_cons (fld_K K (fld_K K (pv 0))) (pa_cons (fld_K K (fld_K K (pv 0))) pa_nil))))))))), ?_⟩
    have S0 : Tot (fun _ => False) A0 H A0 H := .refl hx
    refine s_asgP (P := isV (vO (o0 nf))) S0 ?_ fun v A1 B1 s1 S1 p1 => ?_
    · refine ev_if (K := K) (b := decide ((0 : Int) ∈ nf)) (et_test (ev_inL (neg := false) (by walk_at "ev") (ev_live0 T C (by walk_at "ref")))) (fun hb => ?_) fun hb => ?_
      · unfold o0; rw [hb]; exact ev_cv
      · unfold o0; rw [hb]; exact ev_cv
    subst p1
    have C1 := C.mono s1.kn
    walk_at "nx"
    refine s_asgP (P := isV (vO (o0 ns))) S1 ?_ fun v A2 B2 s2 S2 p2 => ?_
    · refine ev_if (K := K) (b := decide ((0 : Int) ∈ ns)) (et_test (ev_inL (neg := false) (by walk_at "ev") (ev_live1 T C1 (by walk_at "ref")))) (fun hb => ?_) fun hb => ?_
      · unfold o0; rw [hb]; exact ev_cv
      · unfold o0; rw [hb]; exact ev_cv
    subst p2
    have C2 := C1.mono s2.kn
    have l1 := C.rf.wf.lead.len
    have l2 := C.rs.wf.lead.len
    walk_at "nx"
    exact s_retP S2 k (ev_spotM C2 (by walk_at "ref") (by walk_at "ref") (by walk_at "ref") (ev_lead T C2.rf (ev_first T C2 (by walk_at "ref"))) (ev_lead T C2.rs (ev_second T C2 (by walk_at "ref"))) (by omega) (by omega) hc)
theorem ok_Cm_step (Bm : Bl mg) (T : Txt K CR CC) (O_Cm_spot : OkM P w K mg base 3 CC "_spot" ["self", "one", "other", "ahead", "behind"] (sp_Cm_spot K CR CC)) (O_live_way : OkF P w K mg base 2 "live_way" ["rewriter", "live", "state", "letter"] (sp_live_way K CR CC)) (F : DefM K CC "step" "Comparison.step" s_Cm_step ["self", "spot", "letter"]) : OkM P w K mg base 4 CC "step" ["self", "spot", "letter"] (sp_Cm_step K CR CC) := by
  refine okM_of F sc_Cm_step (fun vs H Q E h => ?_) (fun f cdv Ar outer s H vs Q E hr h => ?_)
  · obtain ⟨A, c, p, q, L, F, S, nf, ns, o1, o2, a, b, v, j, z, rfl, _⟩ := h
    rfl
  · obtain ⟨A0, c, p, q, L, F, S, nf, ns, o1, o2, a, b, v, j, z, rfl, hx, C, hv, h1, h2, hj, la, lb, hc, k⟩ := h
    have hu := hu_of hr
    refine ⟨_, (pss_cons (ps_asg (pv 1) (gtup_K K (n := 4) rfl (pgs_cons (pg_name (i := 3) sc_Cm_step.nd rfl (by first | exact Or.inl rfl | exact Or.inr rfl)) (pgs_cons (pg_name (i := 4) sc_Cm_step.nd rfl (by first | exact Or.inl rfl | exact Or.inr rfl)) (pgs_cons (pg_name (i := 5) sc_Cm_step.nd rfl (by first | exact Or.inl rfl | exact Or.inr rfl)) (pgs_cons (pg_name (i := 6) sc_Cm_step.nd rfl (by first | exact Or.inl rfl | exact Or.inr rfl)) pgs_nil))))))
      (pss_cons (ps_set (i := 7) sc_Cm_step.nd rfl (Or.inl rfl) (pe_ifExp (pt_cmpR isN_R (pv 3) pe_non (nomark _)) pe_non (pe_F O_live_way (hr.mono (by decide)) rfl (pa_cons (fld_K K (pv 0)) (pa_cons (pe_ix (ix_K K) (fld_K K (pv 0)) pe_int (fun _ _ => rfl)) (pa_cons (pv 3) (pa_cons (pv 2) pa_nil)))))))
      (pss_cons (ps_set (i := 8) sc_Cm_step.nd rfl (Or.inl rfl) (pe_ifExp (pt_cmpR isN_R (pv 4) pe_non (nomark _)) pe_non (pe_F O_live_way (hr.mono (by decide)) rfl (pa_cons (fld_K K (pv 0)) (pa_cons (pe_ix (ix_K K) (fld_K K (pv 0)) pe_int (fun _ _ => rfl)) (pa_cons (pv 4) (pa_cons (pv 2) pa_nil)))))))
      (pss_cons (ps_if (PW.pt (pw_or (pt_cmpR isN_R (pv 7) pe_non (nomark _)) (pw_or1 (pt_cmpR isN_R (pv 8) pe_non (nomark _))))) (pss_one (ps_ret (pe_tup (pa_cons (pe_ifExp (pt_cmpR isN_R (pv 7) pe_non (nomark _)) pe_non (pe_ix (ix_K K) (pv 7) pe_int (fun _ _ => rfl))) (pa_cons (pe_ifExp (pt_cmpR isN_R (pv 8) pe_non (nomark _)) pe_non (pe_ix (ix_K K) (pv 8) pe_int (fun _ _ => rfl))) (pa_cons pe_str (pa_cons pe_str pa_nil))))))) pss_nil)
      (pss_cons (ps_if (pt_cmpR isN_R (pv 5) pe_non (nomark _)) (pss_one (ps_ret (pe_tup (pa_cons (pe_ix (ix_K K) (pv 7) pe_int (fun _ _ => rfl)) (pa_cons (pe_ix (ix_K K) (pv 8) pe_int (fun _ _ => rfl)) (pa_cons pe_non (pa_cons pe_non pa_nil))))))) pss_nil)
      (pss_one (ps_ret (pe_D O_Cm_spot (hr.mono (by decide)) (pv 0) (pa_cons (pe_ix (ix_K K) (pv 7) pe_int (fun _ _ => rfl)) (pa_cons (pe_ix (ix_K K) (pv 8) pe_int (fun _ _ => rfl)) (pa_cons (pe_op (plus_K K) (pv 5) (pe_ix (ix_K K) (pv 7) pe_int (fun _ _ => rfl))) (pa_cons (pe_op (plus_K K) (pv 6) (pe_ix (ix_K K) (pv 8) pe_int (fun _ _ => rfl))) pa_nil)))))))))))), ?_⟩
    have S0 : Tot (fun _ => False) A0 H A0 H := .refl hx
    refine s_unp (K := K) S0 (ds := [eO o1, eO o2, .str a, .str b]) (ev_var rfl hv) rfl fun vs A1 B1 s1 S1 p1 => ?_
    obtain ⟨u1, u2, u3, u4, rfl, q1, q2, q3, q4⟩ := da_four p1
    refine ⟨u1, [u2, u3, u4], rfl, u2, [u3, u4], rfl, u3, [u4], rfl, u4, [], rfl, rfl, ?_⟩
    have e1 := dp_Oi q1
    have e2 := dp_Oi q2
    have e3 := dp_str q3
    have e4 := dp_str q4
    subst e1 e2 e3 e4
    have C1 := C.mono s1.kn
    walk_at "nx"
    refine s_asg (K := K) (d := eW (lw F nf o1 j)) S1 ?_ fun w1 A2 B2 s2 S2 p2 => ?_
    · cases o1 with
      | none => exact ev_if (b := true) (et_test (ev_is0 (ev_var rfl q1) (by walk_at "ev") rfl)) (fun _ => ev_c fun _ => Dp.non) fun z => nomatch z
      | some k1 => exact ev_if (b := false) (et_test (ev_is0 (ev_var rfl q1) (by walk_at "ev") rfl)) (fun z => nomatch z) fun _ => ev_lway C1.rf (ev_first T C1 (by walk_at "ref")) (ev_live0 T C1 (by walk_at "ref")) (ev_var rfl q1) (by walk_at "ev") (h1 k1 rfl) hj
    have C2 := C1.mono s2.kn
    walk_at "nx"
    refine s_asg (K := K) (d := eW (lw S ns o2 j)) S2 ?_ fun w2 A3 B3 s3 S3 p3 => ?_
    · cases o2 with
      | none => exact ev_if (b := true) (et_test (ev_is0 (ev_var rfl (dp_mono s2.kn q2)) (by walk_at "ev") rfl)) (fun _ => ev_c fun _ => Dp.non) fun z => nomatch z
      | some k1 => exact ev_if (b := false) (et_test (ev_is0 (ev_var rfl (dp_mono s2.kn q2)) (by walk_at "ev") rfl)) (fun z => nomatch z) fun _ => ev_lway C2.rs (ev_second T C2 (by walk_at "ref")) (ev_live1 T C2 (by walk_at "ref")) (ev_var rfl (dp_mono s2.kn q2)) (by walk_at "ev") (h2 k1 rfl) hj
    have C3 := C2.mono s3.kn
    have wt1 : ∀ t x, lw F nf o1 j = some (t, x) → x.length ≤ 20 := by
      intro t x h
      cases o1 with
      | none => cases h
      | some k1 =>
        unfold lw at h
        dsimp only at h
        split at h
        · exact (C.rf.wf.wayTx h).2.len
        · cases h
    have wt2 : ∀ t x, lw S ns o2 j = some (t, x) → x.length ≤ 20 := by
      intro t x h
      cases o2 with
      | none => cases h
      | some k1 =>
        unfold lw at h
        dsimp only at h
        split at h
        · exact (C.rs.wf.wayTx h).2.len
        · cases h
    generalize lw F nf o1 j = w1' at *
    generalize lw S ns o2 j = w2' at *
    have p2' := dp_mono s3.kn p2
    walk_at "nx"
    refine s_if (K := K) (b := isN (eW w1') || isN (eW w2')) S3 (et_isOr (by walk_at "ev") (by walk_at "ev")) (fun hb A4 B4 s4 S4 => ?_) (fun hb A4 B4 s4 S4 => ?_)
    · have e : stV w1' w2' a b = [vO (w1'.map (·.1)), vO (w2'.map (·.1)), .str "", .str ""] := by
        cases w1' <;> cases w2' <;> first | rfl | cases hb
      rw [e] at k
      exact s_retP S4 k (ev_tup4 (ev_way0 (by walk_at "ev")) (ev_way0 (by walk_at "ev")) ev_cv ev_cv)
    · obtain ⟨⟨t, x⟩, rfl⟩ : ∃ w, w1' = some w := by cases w1' with | none => cases hb | some a => exact ⟨a, rfl⟩
      obtain ⟨⟨u, y⟩, rfl⟩ : ∃ w, w2' = some w := by cases w2' with | none => simp [isN, eW] at hb | some a => exact ⟨a, rfl⟩
      have x1 := wt1 t x rfl
      have x2 := wt2 u y rfl
      replace p2' : Dp K A3 w1 (.tuple [.int (t : Nat), .str x]) := p2'
      replace p3 : Dp K A3 w2 (.tuple [.int (u : Nat), .str y]) := p3
      walk_at "nx"
      refine s_if (K := K) (b := false) S4 (et_test (ev_is0 (d := .str a) (by walk_at "ev") (by walk_at "ev") rfl)) (fun z => nomatch z) (fun _ A5 B5 s5 S5 => ?_)
      have C5 := (C3.mono s4.kn).mono s5.kn
      walk_at "nx"
      have m1 : Dp K A5 w1 (.tuple [.int (t : Nat), .str x]) := by walk_at "dp"
      have m2 : Dp K A5 w2 (.tuple [.int (u : Nat), .str y]) := by walk_at "dp"
      refine s_retP S5 k (ev_spotM (o1 := some t) (o2 := some u) (x := a ++ x) (y := b ++ y) C5 (by walk_at "ref") (ev_vint (i := (t : Nat)) (by walk_at "ev")) (ev_vint (i := (u : Nat)) (by walk_at "ev")) (by walk_at "ev") (by walk_at "ev") (by rw [len_app]; omega) (by rw [len_app]; omega) fun _ _ => hc t x u y rfl rfl)
theorem ok_Cm_differs (Bm : Bl mg) (T : Txt K CR CC)  (F : DefM K CC "differs" "Comparison.differs" s_Cm_differs ["self", "spot"]) : OkM P w K mg base 1 CC "differs" ["self", "spot"] (sp_Cm_differs K CR CC) := by
  refine okM_of F sc_Cm_differs (fun vs H Q E h => ?_) (fun f cdv Ar outer s H vs Q E hr h => ?_)
  · obtain ⟨A, c, p, q, L, F, S, nf, ns, o1, o2, a, b, v, rfl, _⟩ := h
    rfl
  · obtain ⟨A0, c, p, q, L, F, S, nf, ns, o1, o2, a, b, v, rfl, hx, C, hv, h1, h2, la, lb, k⟩ := h
    have hu := hu_of hr
    refine ⟨_, (pss_cons (ps_asg (pv 1) (gtup_K K (n := 4) rfl (pgs_cons (pg_name (i := 2) sc_Cm_differs.nd rfl (by first | exact Or.inl rfl | exact Or.inr rfl)) (pgs_cons (pg_name (i := 3) sc_Cm_differs.nd rfl (by first | exact Or.inl rfl | exact Or.inr rfl)) (pgs_cons (pg_name (i := 4) sc_Cm_differs.nd rfl (by first | exact Or.inl rfl | exact Or.inr rfl)) (pgs_cons (pg_name (i := 5) sc_Cm_differs.nd rfl (by first | exact Or.inl rfl | exact Or.inr rfl)) pgs_nil))))))
      (pss_cons (ps_set (i := 6) sc_Cm_differs.nd rfl (Or.inl rfl) (pe_ifExp (pt_cmpR isN_R (pv 2) pe_non (nomark _)) pe_non (pe_ix (ix_K K) (fld_K K (fld_K K (pv 0))) (pv 2) (fun _ _ => rfl))))
      (pss_cons (ps_set (i := 7) sc_Cm_differs.nd rfl (Or.inl rfl) (pe_ifExp (pt_cmpR isN_R (pv 3) pe_non (nomark _)) pe_non (pe_ix (ix_K K) (fld_K K (fld_K K (pv 0))) (pv 3) (fun _ _ => rfl))))
      (pss_cons (ps_if (PW.pt (pw_or (pt_cmpR isN_R (pv 6) pe_non (nomark _)) (pw_or1 (pt_cmpR isN_R (pv 7) pe_non (nomark _))))) (pss_one (ps_ret (pe_or (pe_cmpR notN_R (pv 6) pe_non (nomark _)) (pe_one (pe_cmpR notN_R (pv 7) pe_non (nomark _)))))) pss_nil)
      (pss_one (ps_ret (pe_or (pe_cmpR isN_R (pv 4) pe_non (nomark _)) (pe_one (pe_cmpR (ne_K K hr) (pe_op (plus_K K) (pv 4) (pv 6)) (pe_op (plus_K K) (pv 5) (pv 7)) (nomark _)))))))))), ?_⟩
    have S0 : Tot (fun _ => False) A0 H A0 H := .refl hx
    refine s_unp (K := K) S0 (ds := [eO o1, eO o2, .str a, .str b]) (ev_var rfl hv) rfl fun vs A1 B1 s1 S1 p1 => ?_
    obtain ⟨u1, u2, u3, u4, rfl, q1, q2, q3, q4⟩ := da_four p1
    refine ⟨u1, [u2, u3, u4], rfl, u2, [u3, u4], rfl, u3, [u4], rfl, u4, [], rfl, rfl, ?_⟩
    have e1 := dp_Oi q1
    have e2 := dp_Oi q2
    have e3 := dp_str q3
    have e4 := dp_str q4
    subst e1 e2 e3 e4
    have C1 := C.mono s1.kn
    walk_at "nx"
    refine s_asg (K := K) (d := eS (fO F o1)) S1 ?_ fun w1 A2 B2 s2 S2 p2 => ?_
    · cases o1 with
      | none => exact ev_if (b := true) (et_test (ev_is0 (ev_var rfl q1) (by walk_at "ev") rfl)) (fun _ => ev_c fun _ => Dp.non) fun z => nomatch z
      | some k1 => exact ev_if (b := false) (et_test (ev_is0 (ev_var rfl q1) (by walk_at "ev") rfl)) (fun z => nomatch z) fun _ => ev_ixT (j := k1) (ev_fin T C1.rf (ev_first T C1 (by walk_at "ref"))) (ev_var rfl q1) rfl (at_map (show F.fin[k1]? = some (finAt F (k1 : Int)) from C.rf.wf.finAt (s := (k1 : Int)) (by omega) (by have := h1 k1 rfl; omega)))
    have C2 := C1.mono s2.kn
    walk_at "nx"
    refine s_asg (K := K) (d := eS (fO S o2)) S2 ?_ fun w2 A3 B3 s3 S3 p3 => ?_
    · cases o2 with
      | none => exact ev_if (b := true) (et_test (ev_is0 (ev_var rfl (dp_mono s2.kn q2)) (by walk_at "ev") rfl)) (fun _ => ev_c fun _ => Dp.non) fun z => nomatch z
      | some k1 => exact ev_if (b := false) (et_test (ev_is0 (ev_var rfl (dp_mono s2.kn q2)) (by walk_at "ev") rfl)) (fun z => nomatch z) fun _ => ev_ixT (j := k1) (ev_fin T C2.rs (ev_second T C2 (by walk_at "ref"))) (ev_var rfl (dp_mono s2.kn q2)) rfl (at_map (show S.fin[k1]? = some (finAt S (k1 : Int)) from C.rs.wf.finAt (s := (k1 : Int)) (by omega) (by have := h2 k1 rfl; omega)))
    have wt1 : ∀ x, fO F o1 = some x → x.length ≤ 20 := by
      intro x h
      cases o1 with
      | none => cases h
      | some k1 => exact (C.rf.wf.finTx h).len
    have wt2 : ∀ x, fO S o2 = some x → x.length ≤ 20 := by
      intro x h
      cases o2 with
      | none => cases h
      | some k1 => exact (C.rs.wf.finTx h).len
    generalize fO F o1 = f1 at *
    generalize fO S o2 = f2 at *
    have p2' := dp_mono s3.kn p2
    walk_at "nx"
    refine s_if (K := K) (b := isN (eS f1) || isN (eS f2)) S3 (et_isOr (by walk_at "ev") (by walk_at "ev")) (fun hb A4 B4 s4 S4 => ?_) (fun hb A4 B4 s4 S4 => ?_)
    · walk_at "ret"
      refine ev_is (ev_orV (a := !isN (eS f1)) (b := !isN (eS f2)) (ev_is1 (by walk_at "ev") (by walk_at "ev") rfl) fun _ => ev_is1 (by walk_at "ev") (by walk_at "ev") rfl) ?_
      cases f1 <;> cases f2 <;> first | rfl | cases hb
    · obtain ⟨x, rfl⟩ : ∃ w, f1 = some w := by cases f1 with | none => cases hb | some a => exact ⟨a, rfl⟩
      obtain ⟨y, rfl⟩ : ∃ w, f2 = some w := by cases f2 with | none => cases hb | some a => exact ⟨a, rfl⟩
      have x1 := wt1 x rfl
      have x2 := wt2 y rfl
      replace p2' : Dp K A3 w1 (.str x) := p2'
      replace p3 : Dp K A3 w2 (.str y) := p3
      walk_at "nx"
      walk_at "ret"
      exact ev_orV (a := false) (b := !decide (a ++ x = b ++ y)) (ev_is0 (d := .str a) (by walk_at "ev") (by walk_at "ev") rfl) fun _ => ev_neS (ev_addS (by walk_at "ev") (by walk_at "ev") (by omega)) (ev_addS (by walk_at "ev") (by walk_at "ev") (by omega)) rfl
end
-- W14
/-! ### a variant of a rewriter -/
theorem ow_pre (c m : Str) : ow (c ++ m) c = (m, ("" : Str)) := by
  have e : cpl (tl (c ++ m)) (tl c) = (tl c).length := by
    have h := cpl_app (tl c) (tl m) []
    rw [List.append_nil, cpl_nil_r, Nat.add_zero, ← tl_app] at h
    exact h
  unfold ow
  rw [e]
  refine Prod.ext ?_ ?_
  · refine tl_ext ?_
    rw [tl_dropS, tl_app, List.drop_left]
  · refine tl_ext ?_
    rw [tl_dropS, List.drop_length]
    rfl
theorem app_nil (x : Str) : x ++ "" = x := tl_ext (by rw [tl_app]; show tl x ++ [] = tl x; rw [List.append_nil])
theorem nil_app (x : Str) : "" ++ x = x := tl_ext (by rw [tl_app]; rfl)
theorem app_assoc (x y z : Str) : x ++ y ++ z = x ++ (y ++ z) := tl_ext (by rw [tl_app, tl_app, tl_app, tl_app, List.append_assoc])
structure Var (L : Str) (F S : Rw) (ix : Nat → Nat) (mv : Nat → Str) : Prop where
  lead : S.lead = F.lead
  i0 : ix 0 = 0
  m0 : mv 0 = ""
  rng : ∀ k, k < F.fin.length → ix k < S.fin.length
  mo : ∀ k, k < F.fin.length → Tx L (mv k)
  fin : ∀ k : Nat, k < F.fin.length → finAt S (ix k : Nat) = (finAt F k).map (mv k ++ ·)
  way : ∀ k : Nat, k < F.fin.length → ∀ j, j < L.length → ∀ t x, wayAt F (k : Nat) j = some (t, x) → ∃ y, wayAt S (ix k : Nat) j = some (ix t, mv k ++ y) ∧ x = y ++ mv t
  gap : ∀ k : Nat, k < F.fin.length → ∀ j, j < L.length → wayAt F (k : Nat) j = none → ∀ u z, wayAt S (ix k : Nat) j = some (u, z) → ¬ Live S u
theorem live_of_way {L : Str} {P : Rw} (w : Wf L P) {k j t : Nat} {x : Str} (hk : k < P.fin.length) (hj : j < L.length) (h : wayAt P (k : Nat) j = some (t, x)) (hl : Live P t) : Live P k := by
  obtain ⟨r, hr, hlen⟩ := w.tabAt (s := (k : Int)) (by omega) (by omega)
  have e := w.wayIs hr (k := j) (by omega)
  rw [h] at e
  exact .way hr (List.mem_of_getElem? e) hl
theorem live_of_fin {L : Str} {P : Rw} (w : Wf L P) {k : Nat} {x : Str} (hk : k < P.fin.length) (h : finAt P (k : Nat) = some x) : Live P k := by
  have e := w.finAt (s := (k : Int)) (by omega) (by omega)
  rw [h] at e
  exact .fin e
theorem Wf.atFin {L : Str} {P : Rw} (w : Wf L P) {k : Nat} {o : Option Str} (h : P.fin[k]? = some o) : k < P.fin.length ∧ A26.finAt P (k : Nat) = o := by
  have hk := (List.getElem?_eq_some_iff.mp h).1
  have e := w.finAt (s := (k : Int)) (by omega) (by omega)
  exact ⟨hk, Option.some.inj (e.symm.trans h)⟩
theorem Wf.atWay {L : Str} {P : Rw} (w : Wf L P) {k : Nat} {r : List Way} {v : Way} (h : P.tab[k]? = some r) (hm : v ∈ r) : k < P.fin.length ∧ ∃ j, j < L.length ∧ wayAt P (k : Nat) j = v := by
  have hk := (List.getElem?_eq_some_iff.mp h).1
  have hl := w.len
  obtain ⟨j, hj⟩ := List.getElem?_of_mem hm
  have hj2 := (List.getElem?_eq_some_iff.mp hj).1
  have e := w.wayIs (s := (k : Int)) h hj2
  have hr := w.row r (List.mem_of_getElem? h)
  exact ⟨by omega, j, by omega, Option.some.inj (e.symm.trans hj)⟩
section
variable {L : Str} {F S : Rw} {ix : Nat → Nat} {mv : Nat → Str}
theorem Var.live1 (WF : Wf L F) (WS : Wf L S) (V : Var L F S ix mv) {k : Nat} (h : Live F k) : Live S (ix k) := by
  induction h with
  | fin h =>
    obtain ⟨hk, e⟩ := WF.atFin h
    have e2 := V.fin _ hk
    rw [e] at e2
    exact live_of_fin WS (V.rng _ hk) e2
  | way h1 h2 _ ih =>
    obtain ⟨hk, j, hj, e⟩ := WF.atWay h1 h2
    obtain ⟨y, e2, _⟩ := V.way _ hk j hj _ _ e
    exact live_of_way WS (V.rng _ hk) hj e2 ih
theorem Var.live2 (WF : Wf L F) (WS : Wf L S) (V : Var L F S ix mv) {s : Nat} (h : Live S s) : ∀ k, k < F.fin.length → s = ix k → Live F k := by
  induction h with
  | fin h =>
    intro k hk e
    subst e
    obtain ⟨_, e⟩ := WS.atFin h
    rw [V.fin k hk] at e
    cases hf : finAt F (k : Nat) with
    | none => rw [hf] at e; cases e
    | some x => exact live_of_fin WF hk hf
  | way h1 h2 hl ih =>
    intro k hk e
    subst e
    obtain ⟨_, j, hj, e⟩ := WS.atWay h1 h2
    cases hw : wayAt F (k : Nat) j with
    | none => exact absurd hl (V.gap k hk j hj hw _ _ e)
    | some tx =>
      obtain ⟨t, x⟩ := tx
      obtain ⟨y, e2, _⟩ := V.way k hk j hj t x hw
      rw [e] at e2
      cases e2
      exact live_of_way WF hk hj hw (ih t (WF.wayTx hw).1 rfl)
theorem Var.live (WF : Wf L F) (WS : Wf L S) (V : Var L F S ix mv) {k : Nat} (hk : k < F.fin.length) : Live F k ↔ Live S (ix k) := ⟨V.live1 WF WS, fun h => V.live2 WF WS h k hk rfl⟩
theorem lw_some {P : Rw} {ns : List Int} {k j t : Nat} {x : Str} (h : LiveL P ns) (hw : wayAt P (k : Nat) j = some (t, x)) : (Live P t ∧ lw P ns (some k) j = some (t, x)) ∨ (¬ Live P t ∧ lw P ns (some k) j = none) := by
  unfold lw
  dsimp only
  rw [hw]
  show (_ ∧ (if decide ((t : Int) ∈ ns) = true then _ else _) = _) ∨ (_ ∧ (if decide ((t : Int) ∈ ns) = true then _ else _) = _)
  by_cases hl : Live P t
  · exact .inl ⟨hl, by rw [if_pos (decide_eq_true ((h.at t).mpr hl))]⟩
  · exact .inr ⟨hl, by rw [if_neg (by simpa using fun z => hl ((h.at t).mp z))]⟩
theorem lw_none {P : Rw} {ns : List Int} {k j : Nat} (hw : wayAt P (k : Nat) j = none) : lw P ns (some k) j = none := by
  unfold lw
  dsimp only
  rw [hw]
  split <;> rfl
theorem Var.lws (WF : Wf L F) (WS : Wf L S) (V : Var L F S ix mv) {nf ns : List Int} (lf : LiveL F nf) (ls : LiveL S ns) {k j : Nat} (hk : k < F.fin.length) (hj : j < L.length) :
    (lw F nf (some k) j = none ∧ lw S ns (some (ix k)) j = none) ∨ ∃ t y, t < F.fin.length ∧ Live F t ∧ lw F nf (some k) j = some (t, y ++ mv t) ∧ lw S ns (some (ix k)) j = some (ix t, mv k ++ y) := by
  cases hw : wayAt F (k : Nat) j with
  | none =>
    refine .inl ⟨lw_none hw, ?_⟩
    cases hw2 : wayAt S (ix k : Nat) j with
    | none => exact lw_none hw2
    | some uz =>
      obtain ⟨u, z⟩ := uz
      have hd := V.gap k hk j hj hw u z hw2
      rcases lw_some ls hw2 with h | h
      · exact absurd h.1 hd
      · exact h.2
  | some tx =>
    obtain ⟨t, x⟩ := tx
    obtain ⟨y, e2, rfl⟩ := V.way k hk j hj t x hw
    have ht := (WF.wayTx hw).1
    rcases lw_some lf hw with h | h
    · rcases lw_some ls e2 with h2 | h2
      · exact .inr ⟨t, y, ht, h.1, h.2, h2.2⟩
      · exact absurd ((V.live WF WS ht).mp h.1) h2.1
    · rcases lw_some ls e2 with h2 | h2
      · exact absurd ((V.live WF WS ht).mpr h2.1) h.1
      · exact .inl ⟨h.2, h2.2⟩
/-- what step tells of a live spot -/
theorem Var.next (WF : Wf L F) (WS : Wf L S) (V : Var L F S ix mv) {nf ns : List Int} (lf : LiveL F nf) (ls : LiveL S ns) {k j : Nat} (hk : k < F.fin.length) (hj : j < L.length) :
    (∀ t x u y, lw F nf (some k) j = some (t, x) → lw S ns (some (ix k)) j = some (u, y) → (ow (mv k ++ x) ("" ++ y)).2 = "") ∧
    (stV (lw F nf (some k) j) (lw S ns (some (ix k)) j) (mv k) "" = [.non, .non, .str "", .str ""] ∨
      ∃ t, t < F.fin.length ∧ Live F t ∧ stV (lw F nf (some k) j) (lw S ns (some (ix k)) j) (mv k) "" = [.int (t : Nat), .int (ix t : Nat), .str (mv t), .str ""]) := by
  rcases V.lws WF WS lf ls hk hj with ⟨h1, h2⟩ | ⟨t, y, ht, hl, h1, h2⟩
  · rw [h1, h2]
    exact ⟨fun t x u y h => (nomatch h), .inl rfl⟩
  · rw [h1, h2]
    have e : ow (mv k ++ (y ++ mv t)) ("" ++ (mv k ++ y)) = (mv t, ("" : Str)) := by rw [nil_app, ← app_assoc, ow_pre]
    refine ⟨fun t' x u y' e1 e2 => ?_, .inr ⟨t, ht, hl, ?_⟩⟩
    · cases e1
      cases e2
      rw [e]
    · show spV (some t) (some (ix t)) (mv k ++ (y ++ mv t)) ("" ++ (mv k ++ y)) = _
      unfold spV
      dsimp only
      rw [e]
theorem Var.ends (V : Var L F S ix mv) {k : Nat} (hk : k < F.fin.length) : endsOK (fO F (some k)) (fO S (some (ix k))) (mv k) "" = true := by
  show endsOK (finAt F (k : Nat)) (finAt S (ix k : Nat)) (mv k) "" = true
  rw [V.fin k hk]
  cases finAt F (k : Nat) with
  | none => rfl
  | some x => exact decide_eq_true (by show mv k ++ x = "" ++ (mv k ++ x); rw [nil_app])
end
theorem nodup_le : ∀ (n : Nat) (ks : List Nat), ks.Nodup → (∀ k ∈ ks, k < n) → ks.length ≤ n
  | 0, ks, _, h => by
    cases ks with
    | nil => exact Nat.le_refl _
    | cons a t => exact absurd (h a List.mem_cons_self) (Nat.not_lt_zero _)
  | n + 1, ks, hn, h => by
    by_cases hm : n ∈ ks
    · have h1 := nodup_le n (ks.erase n) (hn.erase n) fun k hk => by
        have h2 := (hn.mem_erase_iff).mp hk
        have h3 := h k h2.2
        omega
      rw [List.length_erase_of_mem hm] at h1
      omega
    · have h1 := nodup_le n ks hn fun k hk => by
        have h2 := h k hk
        have : k ≠ n := fun e => hm (e ▸ hk)
        omega
      omega
-- W15
theorem perm_map_inv {α β : Type} {g : α → β} {l1 l2 : List β} (h : l1.Perm l2) : ∀ ks : List α, l2 = ks.map g → ∃ ks' : List α, ks'.Perm ks ∧ l1 = ks'.map g := by
  induction h with
  | nil =>
    intro ks e
    have : ks = [] := by cases ks with | nil => rfl | cons => cases e
    subst this
    exact ⟨[], .nil, rfl⟩
  | cons x _ ih =>
    intro ks e
    cases ks with
    | nil => cases e
    | cons k ks =>
      rw [List.map_cons] at e
      injection e with e1 e2
      subst e1
      obtain ⟨ks', h1, h2⟩ := ih ks e2
      exact ⟨k :: ks', .cons _ h1, by rw [List.map_cons, h2]⟩
  | swap x y l =>
    intro ks e
    match ks with
    | [] => cases e
    | [a] => cases e
    | a :: b :: ks =>
      rw [List.map_cons, List.map_cons] at e
      injection e with e1 e2
      injection e2 with e2 e3
      subst e1 e2 e3
      exact ⟨b :: a :: ks, .swap _ _ _, rfl⟩
  | trans _ _ ih1 ih2 =>
    intro ks e
    obtain ⟨ks', h1, h2⟩ := ih2 ks e
    obtain ⟨ks2, h3, h4⟩ := ih1 ks' h2
    exact ⟨ks2, h3.trans h1, h4⟩
section
variable {K : PySem.W.Frag} {σ : L2.St} {te ta tb to : TE} {tA : TA} {D : Ends} {M : Addr → Prop} {A0 B0 A B As : Hp} {CR CC : Addr}
/-- an item of a list whose content is known exactly -/
theorem ev_ixX {l : Addr} {vs : List V} {i : Int} {j : Nat} {v : V} (ha : EvP ta σ A fun _ u => u = .ref l) (hl : A l = some (.lst vs)) (hb : EvD K tb σ A (.int i)) (e : i = (j : Int)) (hv : vs[j]? = some v) : EvP (tOp (rIx K) ta tb) σ A (isV v) := fun A1 B1 a b Q q =>
  ha A1 B1 a b _ fun u A2 B2 s2 p2 => hb A2 B2 (a.trans s2.kn) s2.le _ fun w A3 B3 s3 p3 => by
    subst p2
    exact .inl ⟨l, vs, i, v, rfl, dp_int p3, .inl (.inl (s3.le _ _ (((a.trans s2.kn).trans s3.kn) _ _ hl))), by rw [e]; exact atI_nat hv, q v A3 B3 (s2.trans s3) rfl⟩
theorem ev_sortedD {ds : List PyData} (h : EvD K te σ A (.list ds)) (h1 : PySem.W.AllAlike ds) (h2 : PySem.W.Sortable ds) (h3 : ∀ d ∈ ds, d.depth ≤ 60) : EvP (tCB (rSortedD K) (tCons te tNil)) σ A fun A v => ∃ ds' : List PyData, ds'.Perm ds ∧ Dp K A v (.list ds') :=
  ev_cb (ead_cons h ead_nil) fun A B vs _ f p Q k => by
    obtain ⟨v, e0, pv⟩ := da_one p
    subst e0
    obtain ⟨a, us, rfl, hs, pa⟩ := dp_lst pv
    exact ⟨a, us, ds, rfl, ex_l f hs, da_mono f pa, h1, h2, h3, fun xs' ds' q hp hd hq => by
      exact k _ (upd A q (.lst xs')) _ (.new f hq) ⟨ds', hp, .lst (SqL.of upd_same) (hd _ (da_mono (StpM.new (M := fun _ => False) f hq).kn pa))⟩⟩
/-- a statement whose expression sees own objects too -/
theorem s_asgX {i : Nat} {P : Hp → V → Prop} (e : Ex A As) (f : Ex As B) (h : EvP te σ As P) (S : Tot M A0 B0 A B) (k : ∀ v A' B', Stp As B A' B' → Stp A B A B' → Tot M A0 B0 A B' → P A' v → D.nx (σ.set i (some v)) B') : tAsg te (gName i) D σ B :=
  h As B (Ex.refl _) f _ fun v A' B' s p => k v A' B' s (s.back e) (S.go (s.back e)) p
theorem s_ifX {b : Bool} {tt : TT} {tu tw : TS} (e : Ex A As) (f : Ex As B) (h : EvT K tt σ As b) (S : Tot M A0 B0 A B) (h1 : b = true → ∀ B', Stp A B A B' → Tot M A0 B0 A B' → tu D σ B') (h2 : b = false → ∀ B', Stp A B A B' → Tot M A0 B0 A B' → tw D σ B') : tIfS tt tu tw D σ B :=
  st_if h f (fun z A' B' s => h1 z B' (s.back e) (S.go (s.back e))) (fun z A' B' s => h2 z B' (s.back e) (S.go (s.back e)))
/-- {t: y}, a dict that will change -/
theorem st_dispT {i : Nat} {b : Addr} {ks : List Key} {y : V} (e : Ex A As) (f : Ex As B) (h : EvP te σ As (isV (.ref b))) (hy : EvP ta σ As (isV y)) (hb : As b = some (.tup (ks.map kV))) (S : Tot M A0 B0 A B)
    (k : ∀ d B', Stp A B A B' → Tot M A0 B0 A B' → Own A0 B0 A B' d (.dT [(ks, y)]) → B d = none → D.nx (σ.set i (some (.ref d))) B') : tAsg (tDisp1 te ta) (gName i) D σ B := .inl fun p hp => by
  have n0 : A p = none := ex_none S.le hp
  have s0 : Stp A B A (upd B p (.dT [])) := .newU S.le hp
  have f0 : Ex As (upd B p (.dT [])) := f.trans (Ex.new hp)
  refine h As _ (Ex.refl _) f0 _ fun v A1 B1 s1 e1 => ?_
  subst e1
  refine hy A1 B1 s1.kn s1.le _ fun w A2 B2 s2 e2 => ?_
  subst e2
  have h2 : B2 p = some (.dT []) := (s1.trans s2).al _ _ (fun z => z) upd_same
  refine ⟨h2, b, ks, rfl, s2.le _ _ ((s1.kn.trans s2.kn) _ _ hb), ?_⟩
  have s3 : Stp A B A B2 := s0.trans (Stp.back e (s1.trans s2))
  have s4 : Stp A B A (upd B2 p (.dT [(ks, w)])) := s3.mut (.inl hp) n0
  refine k p _ s4 (S.go s4) ⟨upd_same, ?_, n0⟩ hp
  cases q : B0 p with
  | none => rfl
  | some u => exact absurd hp (S.s.th p (by rw [q]; simp))
theorem st_dispA {i : Nat} {b : Addr} {ks : List Leaf} {y : V} (e : Ex A As) (f : Ex As B) (h : EvP te σ As (isV (.ref b))) (hy : EvP ta σ As (isV y)) (hb : As b = some (.tup (ks.map leafV))) (S : Tot M A0 B0 A B)
    (k : ∀ d o B', Stp A B A B' → Tot M A0 B0 A B' → Own A0 B0 A B' d o → B d = none → D.nx (σ.set i (some (.ref d))) B') : tAsg (tDisp1 te ta) (gName i) D σ B := .inr fun p hp => by
  have n0 : A p = none := ex_none S.le hp
  have s0 : Stp A B A (upd B p (.dT [])) := .newU S.le hp
  have f0 : Ex As (upd B p (.dT [])) := f.trans (Ex.new hp)
  refine h As _ (Ex.refl _) f0 _ fun v A1 B1 s1 e1 => ?_
  subst e1
  refine hy A1 B1 s1.kn s1.le _ fun w A2 B2 s2 e2 => ?_
  subst e2
  have h2 : B2 p = some (.dT []) := (s1.trans s2).al _ _ (fun z => z) upd_same
  refine ⟨h2, b, ks, rfl, s2.le _ _ ((s1.kn.trans s2.kn) _ _ hb), ?_⟩
  have s3 : Stp A B A B2 := s0.trans (Stp.back e (s1.trans s2))
  have s4 : Stp A B A (upd B2 p (AnyO p)) := s3.mut (.inl hp) n0
  refine k p _ _ s4 (S.go s4) ⟨upd_same, ?_, n0⟩ hp
  cases q : B0 p with
  | none => rfl
  | some u => exact absurd hp (S.s.th p (by rw [q]; simp))
/-- d[t], d known -/
theorem ev_dget {d b : Addr} {kvs : List (List Key × V)} {ks : List Key} {y : V} (h1 : EvP ta σ A (isV (.ref d))) (h2 : EvP tb σ A (isV (.ref b))) (hd : A d = some (.dT kvs)) (hb : A b = some (.tup (ks.map kV))) (hv : valV kvs ks = some y) : EvP (tDGet ta tb) σ A (isV y) := fun A1 B1 a f Q q =>
  h1 A1 B1 a f _ fun u A2 B2 s2 e2 => h2 A2 B2 (a.trans s2.kn) s2.le _ fun w A3 B3 s3 e3 => by
    subst e2 e3
    have hE := (a.trans s2.kn).trans s3.kn
    refine ⟨d, y, rfl, ?_, q y A3 B3 (s2.trans s3) rfl⟩
    rw [← hv]
    exact DGet.t (s3.le _ _ (hE _ _ hd)) (s3.le _ _ (hE _ _ hb))
theorem et_dnotin {d b : Addr} {kvs : List (List Key × V)} {ks : List Key} (h1 : EvP ta σ A (isV (.ref d))) (h2 : EvP tb σ A (isV (.ref b))) (hd : A d = some (.dT kvs)) (hb : A b = some (.tup (ks.map kV))) : EvT K (tB (tDNotIn tb ta)) σ A (!(valV kvs ks).isSome) := fun A1 B1 a f Q q =>
  h2 A1 B1 a f _ fun w A2 B2 s2 e2 => h1 A2 B2 (a.trans s2.kn) s2.le _ fun u A3 B3 s3 e3 => by
    subst e2 e3
    have hE := (a.trans s2.kn).trans s3.kn
    exact ⟨d, valV kvs ks, rfl, DGet.t (s3.le _ _ (hE _ _ hd)) (s3.le _ _ (hE _ _ hb)), _, rfl, q A3 B3 (s2.trans s3)⟩
/-- d[t] = v -/
theorem st_dput {i j : Nat} {d b : Addr} {kvs : List (List Key × V)} {ks : List Key} {y : V} (e : Ex A As) (f : Ex As B) (h : EvP te σ As (isV y)) (hi : σ[i]? = some (some (.ref d))) (hj : σ[j]? = some (some (.ref b))) (S : Tot M A0 B0 A B) (O : Own A0 B0 A B d (.dT kvs)) (hb : A b = some (.tup (ks.map kV))) (hl : kvs.length ≤ 1000000)
    (k : ∀ B', Stp A B A B' → Tot M A0 B0 A (upd B' d (.dT (putK kvs ks y))) → Own A0 B0 A (upd B' d (.dT (putK kvs ks y))) d (.dT (putK kvs ks y)) → D.nx σ (upd B' d (.dT (putK kvs ks y)))) : sDPut (tVar i) (tVar j) te D σ B :=
  h As B (Ex.refl _) f _ fun v A1 B1 s1 e1 => by
    subst e1
    have sb := s1.back e
    have O1 := O.go sb
    have S1 := S.go sb
    exact ⟨_, hi, _, hj, d, _, rfl, DPut.t O1.at_ (S1.le _ _ hb) (Nat.lt_of_le_of_lt hl (by decide)), k B1 sb (S1.mut O1) O1.put⟩
section
variable {c p q : Addr} {L : Str} {F S : Rw} {nf ns : List Int}
theorem ev_cmp (RF : RwAt K CR A p L F) (RS : RwAt K CR A q L S) (h1 : EvP ta σ A fun _ v => v = .ref p) (h2 : EvP tb σ A fun _ v => v = .ref q) : EvP (tMake CC (sp_Cm_init K CR CC) [] E0 (tCons ta (tCons tb tNil))) σ A fun A v => ∃ c nf ns, v = .ref c ∧ CmAt K CR CC A c p q L F S nf ns := by
  refine ev_make (R := fun A vs => PsAt A [isV (.ref p), isV (.ref q)] vs) (eap_cons h1 mon_v (eap_cons h2 mon_v eap_nil)) fun A B vs e f r c dx H S O Q k => ?_
  obtain ⟨u, v, rfl, rfl, rfl⟩ := ps_two r
  exact ⟨A, B, c, dx, p, q, L, F, _, rfl, S, O, RF.mono e, RS.mono e, fun A' B' nf ns S' C => k A' B' S' ⟨c, nf, ns, rfl, C⟩⟩
theorem ev_startM (C : CmAt K CR CC A c p q L F S nf ns) (ho : EvP to σ A fun _ v => v = .ref c) (hc : o0 nf ≠ none → o0 ns ≠ none → (ow F.lead S.lead).2 = "") : EvP (tMeth CC "start" (sp_Cm_start K CR CC) [] E0 to tNil) σ A (HTV (spV (o0 nf) (o0 ns) F.lead S.lead)) := by
  obtain ⟨dx, vl, i1, i2⟩ := C.ex
  refine ev_meth (R := fun A vs => PsAt A [] vs) ho i1 (cfs0 (by decide +kernel) (by decide +kernel) (by decide +kernel)) eap_nil fun A B vs e f r Q k => ?_
  match vs, r with
  | [], _ => exact ⟨A, c, p, q, L, F, S, nf, ns, rfl, f, C.mono e, hc, fun v A' B' s p => k v A' B' s p⟩
theorem ev_goneM (C : CmAt K CR CC A c p q L F S nf ns) (ho : EvP to σ A fun _ v => v = .ref c) : EvD K (tMeth CC "gone" (sp_Cm_gone K CR CC) [] E0 to tNil) σ A (.tuple [.tuple ((goneL F nf).map .int), .tuple ((goneL S ns).map .int)]) := by
  obtain ⟨dx, vl, i1, i2⟩ := C.ex
  refine ev_meth (R := fun A vs => PsAt A [] vs) ho i1 (cfs0 (by decide +kernel) (by decide +kernel) (by decide +kernel)) eap_nil fun A B vs e f r Q k => ?_
  match vs, r with
  | [], _ => exact ⟨A, c, p, q, L, F, S, nf, ns, rfl, f, C.mono e, k⟩
theorem ev_stepM {o1 o2 : Option Nat} {a b : Str} {j z : Nat} (C : CmAt K CR CC A c p q L F S nf ns) (ho : EvP to σ A fun _ v => v = .ref c) (h1 : EvD K ta σ A (eSp o1 o2 a b)) (h2 : EvD K tb σ A (.str ⟨#[z]⟩)) (l1 : ∀ k, o1 = some k → k < F.fin.length) (l2 : ∀ k, o2 = some k → k < S.fin.length) (hj : (tl L)[j]? = some z) (la : a.length ≤ 100) (lb : b.length ≤ 100)
    (hc : ∀ t x u y, lw F nf o1 j = some (t, x) → lw S ns o2 j = some (u, y) → (ow (a ++ x) (b ++ y)).2 = "") : EvP (tMeth CC "step" (sp_Cm_step K CR CC) [] E0 to (tCons ta (tCons tb tNil))) σ A (HTV (stV (lw F nf o1 j) (lw S ns o2 j) a b)) := by
  obtain ⟨dx, vl, i1, i2⟩ := C.ex
  refine ev_meth (R := fun A vs => PsAt A [isD K (eSp o1 o2 a b), isD K (.str ⟨#[z]⟩)] vs) ho i1 (cfs0 (by decide +kernel) (by decide +kernel) (by decide +kernel)) (eap_cons h1 mon_d (eap_cons h2 mon_d eap_nil)) fun A B vs e f r Q k => ?_
  obtain ⟨u, v, rfl, r1, r2⟩ := ps_two r
  exact ⟨A, c, p, q, L, F, S, nf, ns, o1, o2, a, b, u, j, z, by rw [dp_str r2], f, C.mono e, r1, l1, l2, hj, la, lb, hc, fun v A' B' s p => k v A' B' s p⟩
theorem ev_differsM {o1 o2 : Option Nat} {a b : Str} (C : CmAt K CR CC A c p q L F S nf ns) (ho : EvP to σ A fun _ v => v = .ref c) (h1 : EvD K ta σ A (eSp o1 o2 a b)) (l1 : ∀ k, o1 = some k → k < F.fin.length) (l2 : ∀ k, o2 = some k → k < S.fin.length) (la : a.length ≤ 100) (lb : b.length ≤ 100) :
    EvD K (tMeth CC "differs" (sp_Cm_differs K CR CC) [] E0 to (tCons ta tNil)) σ A (.bool (!endsOK (fO F o1) (fO S o2) a b)) := by
  obtain ⟨dx, vl, i1, i2⟩ := C.ex
  refine ev_meth (R := fun A vs => PsAt A [isD K (eSp o1 o2 a b)] vs) ho i1 (cfs0 (by decide +kernel) (by decide +kernel) (by decide +kernel)) (eap_cons h1 mon_d eap_nil) fun A B vs e f r Q k => ?_
  obtain ⟨u, rfl, r1⟩ := ps_one r
  exact ⟨A, c, p, q, L, F, S, nf, ns, o1, o2, a, b, u, rfl, f, C.mono e, r1, l1, l2, la, lb, k⟩
end
/-- spot[:2] != (None, None) -/
theorem et_two {o1 o2 : Option Nat} {a b : Str} (h : EvD K te σ A (eSp o1 o2 a b)) : EvT K (tTest (tOp (rNeA K) (tSl (rSlAny K) te tNoPart (tPart (tC (.int 2)))) (tTup (tCons (tC .non) (tCons (tC .non) tNil))))) σ A (!(o1.isNone && o2.isNone)) := by
  refine et_test (ev_is (ev_neD (x := .tuple [eO o1, eO o2]) (y := .tuple [.none, .none]) (ev_is (ev_slT (ds := [eO o1, eO o2, .str a, .str b]) h eo_none (eo_some (ev_c fun _ => .int _))) rfl) (ev_tup (ead_cons (ev_c fun _ => .non) (ead_cons (ev_c fun _ => .non) ead_nil)) (Nat.le_of_ble_eq_true rfl)) ?_ rfl) ?_)
  · cases o1 <;> cases o2 <;> rfl
  · cases o1 <;> cases o2 <;> simp [PyData.eqv, PyData.eqvAll, eO]
end
-- W16
section
variable (ix : Nat → Nat) (mv : Nat → Str)
/-- a spot that is met -/
def sv : Option Nat → List V
  | none => [.non, .non, .str "", .str ""]
  | some k => [.int (k : Nat), .int (ix k : Nat), .str (mv k), .str ""]
def kt (k : Nat) : List Key := [.inl (k : Nat), .inl (ix k : Nat), .inr (mv k), .inr ""]
def sd : Option Nat → PyData
  | none => eSp none none "" ""
  | some k => eSp (some k) (some (ix k)) (mv k) ""
def rw0 (k : Nat) : PRow := ((k : Int), (ix k : Int), mv k, "")
def Sps (A : Hp) (vs : List V) (os : List (Option Nat)) : Prop := vs.length = os.length ∧ ∀ (i : Nat) (v : V) (o : Option Nat), vs[i]? = some v → os[i]? = some o → HTV (sv ix mv o) A v
def St (F : Rw) (os : List (Option Nat)) (od : HO) : Prop := os = [none] ∨ ∃ (ks : List Nat) (kvs : List (List Key × V)), os = ks.map some ∧ od = .dT kvs ∧ ks.Nodup ∧ (∀ k ∈ ks, k < F.fin.length ∧ Live F k) ∧ kvs.length ≤ ks.length ∧
  ∀ k, (k ∈ ks → ∃ x : Str, valV kvs (kt ix mv k) = some (.str x) ∧ x.length ≤ ks.length) ∧ (k ∉ ks → valV kvs (kt ix mv k) = none)
end
section
variable {ix : Nat → Nat} {mv : Nat → Str} {K : PySem.W.Frag} {A A' : Hp} {vs : List V} {os : List (Option Nat)}
theorem kt_inj {a b : Nat} (h : kt ix mv a = kt ix mv b) : a = b := by
  unfold kt at h
  injection h with h1 h2
  injection h1 with h1
  omega
theorem Sps.mono (e : Ex A A') (h : Sps ix mv A vs os) : Sps ix mv A' vs os := ⟨h.1, fun i v o h1 h2 => mon_t _ _ _ e (h.2 i v o h1 h2)⟩
theorem Sps.app {v : V} {o : Option Nat} (h : Sps ix mv A vs os) (hv : HTV (sv ix mv o) A v) : Sps ix mv A (vs ++ [v]) (os ++ [o]) := by
  refine ⟨by simp [h.1], fun i u o' h1 h2 => ?_⟩
  by_cases hi : i < vs.length
  · rw [List.getElem?_append_left hi] at h1
    rw [List.getElem?_append_left (by have := h.1; omega)] at h2
    exact h.2 i u o' h1 h2
  · rw [List.getElem?_append_right (by omega)] at h1
    rw [List.getElem?_append_right (by have := h.1; omega), ← h.1] at h2
    cases e : i - vs.length with
    | zero => rw [e] at h1 h2; cases h1; cases h2; exact hv
    | succ n => rw [e] at h1; simp at h1
theorem sv_dp {o : Option Nat} {v : V} (h : HTV (sv ix mv o) A v) : Dp K A v (sd ix mv o) := by
  obtain ⟨a, rfl, h⟩ := h
  cases o with
  | none => exact .tup (SqT.of h) (.cons .non (.cons .non (.cons (.str _) (.cons (.str _) .nil))))
  | some k => exact .tup (SqT.of h) (.cons (.int _) (.cons (.int _) (.cons (.str _) (.cons (.str _) .nil))))
theorem da_of {ds : List PyData} (hl : vs.length = ds.length) (h : ∀ (i : Nat) (v : V) (d : PyData), vs[i]? = some v → ds[i]? = some d → Dp K A v d) : DpAll K A vs ds := by
  induction vs generalizing ds with
  | nil => cases ds with | nil => exact .nil | cons => cases hl
  | cons v vs ih =>
    cases ds with
    | nil => cases hl
    | cons d ds => exact .cons (h 0 v d rfl rfl) (ih (by simpa using hl) fun i v d h1 h2 => h (i + 1) v d (by simpa using h1) (by simpa using h2))
theorem Sps.da (h : Sps ix mv A vs os) : DpAll K A vs (os.map (sd ix mv)) := by
  refine da_of (by rw [List.length_map]; exact h.1) fun i v d h1 h2 => ?_
  rw [List.getElem?_map] at h2
  cases e : os[i]? with
  | none => rw [e] at h2; cases h2
  | some o => rw [e] at h2; cases h2; exact sv_dp (h.2 i v o h1 e)
end
theorem LiveL.at0 {P : Rw} {ns : List Int} (h : LiveL P ns) : (0 : Int) ∈ ns ↔ Live P 0 := h.at 0
theorem st_disp {σ : L2.St} {te ta : TE} {D : Ends} {M : Addr → Prop} {A0 B0 A B As : Hp} {i : Nat} {b : Addr} {y : V} (kk : Option (List Key)) (e : Ex A As) (f : Ex As B) (h : EvP te σ As (isV (.ref b))) (hy : EvP ta σ As (isV y))
    (hb : (∃ ks, kk = some ks ∧ As b = some (.tup (ks.map kV))) ∨ (kk = none ∧ ∃ ks : List Leaf, As b = some (.tup (ks.map leafV)))) (S : Tot M A0 B0 A B)
    (k : ∀ d od B', Stp A B A B' → Tot M A0 B0 A B' → Own A0 B0 A B' d od → B d = none → (∀ ks, kk = some ks → od = .dT [(ks, y)]) → D.nx (σ.set i (some (.ref d))) B') : tAsg (tDisp1 te ta) (gName i) D σ B := by
  rcases hb with ⟨ks, rfl, hb⟩ | ⟨rfl, ks, hb⟩
  · exact st_dispT e f h hy hb S fun d B' s S' O n => k d _ B' s S' O n fun ks' e => by cases e; rfl
  · exact st_dispA e f h hy hb S fun d o B' s S' O n => k d _ B' s S' O n fun ks' e => nomatch e
theorem st_whileX {σ : L2.St} {D : Ends} {K : PySem.W.Frag} (W : Nat → L2.St → Hp → Hp → Prop) (m0 : Nat) {A0 B0 : Hp} {tt : TT} {tb : TS} (h0 : W m0 σ A0 B0)
    (hs : ∀ m σ' A B, W m σ' A B → ∃ b As, Ex A As ∧ Ex As B ∧ EvT K tt σ' As b ∧ (b = true → ∀ B1, Stp A B A B1 → tb { D with nx := fun σ2 B2 => ∃ A2 m', m' < m ∧ W m' σ2 A2 B2, ct := fun σ2 B2 => ∃ A2 m', m' < m ∧ W m' σ2 A2 B2, bk := D.nx } σ' B1) ∧ (b = false → ∀ B1, Stp A B A B1 → D.nx σ' B1)) : tWhile tt tb D σ B0 :=
  ⟨fun m σ' B => ∃ A, W m σ' A B, ⟨m0, A0, h0⟩, fun m σ' B ⟨A, hw⟩ => by
    obtain ⟨b, As, e, f, hb, h1, h2⟩ := hs m σ' A B hw
    refine hb As B (Ex.refl _) f _ fun A1 B1 s => ?_
    have s := s.back e
    cases b with
    | true => exact ⟨fun σ2 B2 => ∃ A2 m', m' < m ∧ W m' σ2 A2 B2, fun σ2 B2 ⟨A2, m', lt, w⟩ => ⟨m', lt, A2, w⟩, h1 rfl B1 s⟩
    | false => exact h2 rfl B1 s⟩
theorem St.len {ix : Nat → Nat} {mv : Nat → Str} {F : Rw} {os : List (Option Nat)} {od : HO} (h : St ix mv F os od) (hn : F.fin.length ≤ 4) : os.length ≤ 4 := by
  rcases h with rfl | ⟨ks, kvs, rfl, _, hnd, hk, _, _⟩
  · decide
  · rw [List.length_map]
    have := nodup_le F.fin.length ks hnd fun k hk2 => (hk k hk2).1
    omega
theorem alike_rows {a b : PRow} : PySem.W.alike (eR a) (eR b) = true := by
  simp [eR, PySem.W.alike, PySem.W.alikeAll]
def sp_same (K : PySem.W.Frag) (CR CC : Addr) : Sp := fun vs H Q _ => ∃ (A : Hp) (p q : Addr) (L : Str) (F S : Rw) (ix : Nat → Nat) (mv : Nat → Str), vs = [.ref p, .ref q] ∧ Ex A H ∧ RwAt K CR A p L F ∧ RwAt K CR A q L S ∧ Var L F S ix mv ∧
  ∀ (v : V) (A' B' : Hp) (pa : Pap), pa.gone.length ≤ 4 → pa.far.length ≤ 4 → pa.rows.length ≤ 4 → (∀ r ∈ pa.rows, Tx L r.2.2.1 ∧ Tx L r.2.2.2) → Stp A H A' B' → Dp K A' v (.tuple [.str "same", eP pa]) → Q v B'
theorem goneL_len {P : Rw} {ns : List Int} : (goneL P ns).length ≤ P.fin.length := by
  unfold goneL
  rw [List.length_map]
  have := List.length_filter_le (fun k : Nat => !decide ((k : Int) ∈ ns)) (List.range P.fin.length)
  rw [List.length_range] at this
  exact this
section
variable {P : Program} {w : World} {K : PySem.W.Frag} {mg : Str → Option Value} {base : Heap} {CR CC : Addr}
theorem ok_same (Bm : Bl mg) (T : Txt K CR CC) (M_Cm : OkC P w K mg base 2 "Comparison" CC ["self", "first", "second"] (sp_Cm_init K CR CC)) (O_Cm_start : OkM P w K mg base 4 CC "start" ["self"] (sp_Cm_start K CR CC)) (O_Cm_differs : OkM P w K mg base 1 CC "differs" ["self", "spot"] (sp_Cm_differs K CR CC)) (O_Cm_step : OkM P w K mg base 4 CC "step" ["self", "spot", "letter"] (sp_Cm_step K CR CC)) (O_Cm_gone : OkM P w K mg base 1 CC "gone" ["self"] (sp_Cm_gone K CR CC)) (F : DefF K mg "same" s_same ["first", "second"]) : OkF P w K mg base 5 "same" ["first", "second"] (sp_same K CR CC) := by
  refine okF_of F sc_same (fun vs H Q E h => ?_) (fun f cdv Ar outer s H vs Q E hr h => ?_)
  · obtain ⟨A, p, q, L, F, S, ix, mv, rfl, _⟩ := h
    rfl
  · obtain ⟨A0, p, q, L, F, S, ix, mv, rfl, hx, RF, RS, Vr, k⟩ := h
    have hu := hu_of hr
    refine ⟨_, (pss_cons (ps_set (i := 2) sc_same.nd rfl (Or.inl rfl) (pe_M M_Cm (hr.mono (by decide)) rfl (pa_cons (pv 0) (pa_cons (pv 1) pa_nil))))
      (pss_cons (ps_set (i := 3) sc_same.nd rfl (Or.inl rfl) (pe_lst (pa_cons (pe_D0 O_Cm_start (hr.mono (by decide)) (pv 2)) pa_nil)))
      (pss_cons (ps_set (i := 4) sc_same.nd rfl (Or.inl rfl) (pe_dispT hu (pe_ix (ix_K K) (pv 3) pe_int (fun _ _ => rfl)) pe_str))
      (pss_cons (ps_set (i := 5) sc_same.nd rfl (Or.inl rfl) pe_int)
      (pss_cons (ps_while PassesOwn.never (pt_cmpR op_lt (pv 5) (b_len K rfl Bm.m_len (pa_cons (pv 3) pa_nil)) (nomark _))
       (pss_cons (ps_set (i := 6) sc_same.nd rfl (Or.inl rfl) (pe_ix (ix_K K) (pv 3) (pv 5) (fun _ _ => rfl)))
        (pss_cons (ps_if (pt_val (pe_D O_Cm_differs (hr.mono (by decide)) (pv 2) (pa_cons (pv 6) pa_nil))) (pss_one (ps_ret (pe_tup (pa_cons pe_str (pa_cons (pe_dget hu (pv 4) (pv 6) (fun _ _ => rfl)) pa_nil))))) pss_nil)
        (pss_cons (ps_for PassesOwn.never rfl (pi_str (fld_K K (pv 0))) (pg_name (i := 7) sc_same.nd rfl (by first | exact Or.inl rfl | exact Or.inr rfl))
         (pss_cons (ps_set (i := 8) sc_same.nd rfl (Or.inl rfl) (pe_D O_Cm_step (hr.mono (by decide)) (pv 2) (pa_cons (pv 6) (pa_cons (pv 7) pa_nil))))
          (pss_one (ps_if (PW.pt (pw_and (pt_cmpR (ne_K K hr) (pe_slice (sl_K K) (pv 8) po_none (po_some pe_int)) (pe_tup (pa_cons pe_non (pa_cons pe_non pa_nil))) (nomark _)) (pw_and1 (pt_cmp (pc_dnotin hu (pv 8) (pv 4)))))) (pss_cons (ps_dput hu (pv 4) (pv 8) (pe_op (plus_K K) (pe_dget hu (pv 4) (pv 6) (fun _ _ => rfl)) (pv 7)) rfl)
            (pss_one (ps_expr (bm_K K PySem.F.plainAttrs_list PySem.F.slot_list_append PySem.F.type_list_append mt_append (pv 3) (pa_cons (pv 8) pa_nil))))) pss_nil))))
        (pss_one (ps_set (i := 5) sc_same.nd rfl (Or.inl rfl) (pe_op (plus_K K) (pv 5) pe_int)))))))
      (pss_cons (ps_set (i := 9) sc_same.nd rfl (Or.inl rfl) (b_sortedD K hr rfl Bm.m_sorted (pa_cons (pe_lc (own := [("spot", 6)]) rfl sc_same.nd (list_K K (pv 3)) (blkOk_by (N := N_same) (sc := defScope s_same) (by decide +kernel)) (fun _ _ _ _ _ => (pg_name (i := 6) sc_same.nd rfl (by first | exact Or.inl rfl | exact Or.inr rfl))) (fun _ _ _ _ _ => (pts_one (pt_cmpR (ne_K K hr) (pe_slice (sl_K K) (pv 6) po_none (po_some pe_int)) (pe_tup (pa_cons pe_non (pa_cons pe_non pa_nil))) (nomark _)))) (fun _ _ _ _ _ => (pv 6))) pa_nil)))
      (pss_one (ps_ret (pe_tup (pa_cons pe_str (pa_cons (pe_op (plus_K K) (pe_D0 O_Cm_gone (hr.mono (by decide)) (pv 2)) (pe_tup (pa_cons (b_tuple K rfl Bm.m_tuple (pa_cons (pv 9) pa_nil)) pa_nil))) pa_nil))))))))))), ?_⟩
    have S0 : Tot (fun _ => False) A0 H A0 H := .refl hx
    have npos := RF.wf.pos
    have nmax := RF.wf.max
    have nmaxS := RS.wf.max
    have l2 := RF.lok.two
    have owl : ow F.lead S.lead = (("" : Str), ("" : Str)) := by
      rw [Vr.lead]
      have := ow_pre F.lead ""
      rw [app_nil] at this
      exact this
    refine s_asgP S0 (ev_cmp RF RS (by walk_at "ref") (by walk_at "ref")) fun v A1 B1 s1 S1 p1 => ?_
    obtain ⟨c, nf, ns, rfl, C⟩ := p1
    have hlive0 := Vr.live RF.wf RS.wf (k := 0) npos
    rw [Vr.i0] at hlive0
    walk_at "nx"
    refine st_new (P := fun A vs => PsAt A [HTV (spV (o0 nf) (o0 ns) F.lead S.lead)] vs) (eap_cons (ev_startM C (by walk_at "ref") fun _ _ => by rw [owl]) mon_t eap_nil) S1 (fun A vs h => by obtain ⟨v, rfl, _⟩ := ps_one h; show 1 ≤ 1000; decide) fun l vs A2 B2 s2 hvs S2 O2 hl2 => ?_
    obtain ⟨v0, rfl, hv0⟩ := ps_one hvs
    -- the first spot
    have hspot : ∃ o : Option Nat, (o = none ∨ (o = some 0 ∧ Live F 0)) ∧ HTV (sv ix mv o) A2 v0 := by
      by_cases hL : Live F 0
      · refine ⟨some 0, .inr ⟨rfl, hL⟩, ?_⟩
        have e1 : o0 nf = some 0 := by unfold o0; rw [if_pos (decide_eq_true (C.lf.at0.mpr hL))]
        have e2 : o0 ns = some 0 := by unfold o0; rw [if_pos (decide_eq_true (C.ls.at0.mpr (hlive0.mp hL)))]
        rw [e1, e2] at hv0
        unfold spV at hv0
        dsimp only at hv0
        rw [owl] at hv0
        have e3 : sv ix mv (some 0) = [.int (0 : Nat), .int (0 : Nat), .str "", .str ""] := by
          show [V.int ((0 : Nat) : Int), V.int (ix 0 : Nat), V.str (mv 0), V.str ""] = _
          rw [Vr.i0, Vr.m0]
        rw [e3]
        exact hv0
      · refine ⟨none, .inl rfl, ?_⟩
        have e1 : o0 nf = none := by unfold o0; rw [if_neg (by simpa using fun z => hL (C.lf.at0.mp z))]
        have e2 : o0 ns = none := by unfold o0; rw [if_neg (by simpa using fun z => hL (hlive0.mpr (C.ls.at0.mp z)))]
        rw [e1, e2] at hv0
        exact hv0
    obtain ⟨o, ho, hso⟩ := hspot
    have C2 := C.mono s2.kn
    obtain ⟨Sf, ef⟩ := S2.frz O2
    have fx : Ex (upd A2 l (.lst [v0])) (upd B2 l (.lst [v0])) := Sf.le
    walk_at "nx"
    -- the texts
    have sp0 : Sps ix mv A2 [v0] [o] := ⟨rfl, fun i v o' h1 h2 => by
      cases i with
      | zero => cases h1; cases h2; exact hso
      | succ n => simp at h1⟩
    obtain ⟨b0, rfl, hb0⟩ := hso
    refine st_disp (o.map (kt ix mv)) ef fx (ev_ixX (K := K) (j := 0) (by walk_at "ref") upd_same (ev_c fun _ => .int _) rfl rfl) ev_cv ?_ S2 fun d od B3 s3 S3 O3 hd0 hod => ?_
    · rcases ho with rfl | ⟨rfl, _⟩
      · exact .inr ⟨rfl, [.none, .none, .text "", .text ""], ef _ _ hb0⟩
      · exact .inl ⟨_, rfl, ef _ _ hb0⟩
    have hld : l ≠ d := by
      intro e
      rw [← e, O2.at_] at hd0
      cases hd0
    have hSt : St ix mv F [o] od := by
      rcases ho with rfl | ⟨rfl, hL⟩
      · exact .inl rfl
      · refine .inr ⟨[0], [(kt ix mv 0, .str "")], rfl, hod _ rfl, by simp, fun k hk => ?_, Nat.le_refl _, fun k => ⟨fun hk => ?_, fun hk => ?_⟩⟩
        · rw [List.mem_singleton] at hk
          subst hk
          exact ⟨npos, hL⟩
        · rw [List.mem_singleton] at hk
          subst hk
          exact ⟨"", valV_pos rfl, by decide⟩
        · rw [valV_neg (fun e => hk (by rw [kt_inj e]; exact List.mem_singleton.mpr rfl))]
          exact valV_nil
    have O2' := O2.go s3
    walk_at "nx"
    refine s_asg (K := K) (d := .int 0) S3 (by walk_at "ev") fun v A4 B4 s4 S4 p4 => ?_
    have ev := dp_int p4
    subst ev
    walk_at "nx"
    refine st_whileX (K := K) (fun m σ A B => ∃ (os : List (Option Nat)) (vs : List V) (od : HO) (i : Nat) (z6 z7 z8 : Option V), σ = [some (.ref p), some (.ref q), some (.ref c), some (.ref l), some (.ref d), some (.int (i : Nat)), z6, z7, z8, none] ∧ Ex A2 A ∧ Tot (fun _ => False) A0 H A B ∧ Own A0 H A B l (.lst vs) ∧ Own A0 H A B d od ∧ Sps ix mv A vs os ∧ St ix mv F os od ∧ i ≤ os.length ∧ m = 5 - i) 5 ⟨[o], [.ref b0], od, 0, _, _, _, rfl, s4.kn, S4, O2'.go s4, O3.go s4, sp0.mono s4.kn, hSt, Nat.zero_le _, rfl⟩ ?_
    rintro m σ' A B ⟨os, vs, od, i, z6, z7, z8, rfl, hE, S5, Ol, Od, hsp, hst, hi, rfl⟩
    have hlen := hst.len nmax
    obtain ⟨Sf5, ef5⟩ := S5.frz Ol
    have hvl := hsp.1
    have hdl : Dp K (upd A l (.lst vs)) (.ref l) (.list (os.map (sd ix mv))) := .lst (SqL.of upd_same) (da_mono ef5 hsp.da)
    refine ⟨decide ((i : Int) < (os.length : Int)), _, ef5, Sf5.le, et_test (ev_ltI (by walk_at "ev") (ev_is (ev_len (d := .list (os.map (sd ix mv))) (ev_var rfl hdl) rfl) (by rw [List.length_map]))), fun hb B6 s6 => ?_, fun hb B6 s6 => ?_⟩
    · have hil : i < os.length := by have := of_decide_eq_true hb; omega
      have S6 := S5.go s6
      have Ol6 := Ol.go s6
      have Od6 := Od.go s6
      obtain ⟨o, hoi⟩ : ∃ o, os[i]? = some o := ⟨_, List.getElem?_eq_getElem hil⟩
      obtain ⟨v, hvi⟩ : ∃ v, vs[i]? = some v := ⟨_, List.getElem?_eq_getElem (by omega)⟩
      have hov := hsp.2 i v o hvi hoi
      have hok : ∀ k, o = some k → k < F.fin.length ∧ Live F k := by
        intro k hk
        subst hk
        rcases hst with rfl | ⟨ks, kvs, rfl, _, _, hk, _, _⟩
        · have := List.mem_of_getElem? hoi
          simp at this
        · have := List.mem_of_getElem? hoi
          rw [List.mem_map] at this
          obtain ⟨k', hk', e⟩ := this
          cases e
          exact hk _ hk'
      obtain ⟨Sf6, ef6⟩ := S6.frz Ol6
      refine s_asgX (P := isV v) ef6 Sf6.le (ev_ixX (K := K) (j := i) (by walk_at "ref") upd_same (ev_var rfl (.int _)) rfl hvi) S6 fun v' A7 B7 _ s7 S7 p7 => ?_
      subst p7
      have Ol7 := Ol6.go s7
      have Od7 := Od6.go s7
      have C7 := C2.mono hE
      have hdv : Dp K A v' (sd ix mv o) := sv_dp hov
      walk_at "nx"
      refine s_if (K := K) (b := false) S7 (et_B ?_) (fun z => nomatch z) (fun _ A8 B8 s8 S8 => ?_)
      · cases o with
        | none => exact ev_differsM (o1 := none) (o2 := none) (a := "") (b := "") C7 (by walk_at "ref") (ev_var rfl hdv) (fun k e => nomatch e) (fun k e => nomatch e) (by decide) (by decide)
        | some k =>
          have hk := (hok k rfl).1
          refine ev_is (ev_differsM (o1 := some k) (o2 := some (ix k)) (a := mv k) (b := "") C7 (by walk_at "ref") (ev_var rfl hdv) (fun k e => by cases e; exact hk) (fun k e => by cases e; exact Vr.rng _ hk) (by have := (Vr.mo k hk).len; omega) (by decide)) ?_
          rw [Vr.ends hk]
          rfl
      have C8 := C7.mono s8.kn
      have hE8 : Ex A0 A8 := ((s1.kn.trans s2.kn).trans hE).trans s8.kn
      obtain ⟨bs, rfl, hbs⟩ := mon_t _ _ _ s8.kn hov
      walk_at "nx"
      refine st_for (K := K) (xs := tl L) (enc := fun c => .str ⟨#[c]⟩) (src_str (ev_lets T (RF.mono hE8) (by walk_at "ref"))) S8.le fun A9 B9 s9 => ⟨fun j σ A B => ∃ (os : List (Option Nat)) (vs : List V) (od : HO) (z7 z8 : Option V), σ = [some (.ref p), some (.ref q), some (.ref c), some (.ref l), some (.ref d), some (.int (i : Nat)), some (.ref bs), z7, z8, none] ∧ Tot (fun _ => False) A0 H A B ∧ Own A0 H A B l (.lst vs) ∧ Own A0 H A B d od ∧ Sps ix mv A vs os ∧ St ix mv F os od ∧ os[i]? = some o, ⟨os, vs, od, _, _, rfl, S8.go s9, (Ol7.go s8).go s9, (Od7.go s8).go s9, (hsp.mono s8.kn).mono s9.kn, hst, hoi⟩, ?_, ?_⟩
      · rintro j ch x σ' A B A10 B10 hj hA hB ⟨os, vs, od, z7, z8, rfl, S9, Ol9, Od9, hsp, hst, hoi⟩ s10 px
        have S10 := S9.go s10
        have Ol10 := Ol9.go s10
        have Od10 := Od9.go s10
        have hsp := hsp.mono s10.kn
        have hE10 : Ex A8 A10 := (s9.kn.trans hA).trans s10.kn
        have C10 := C8.mono hE10
        have hbs10 : A10 bs = some (.tup (sv ix mv o)) := hE10 _ _ hbs
        have hds : Dp K A10 (.ref bs) (sd ix mv o) := sv_dp ⟨bs, rfl, hbs10⟩
        have ex := dp_str px
        subst ex
        have hjl : j < L.length := by
          have := (List.getElem?_eq_some_iff.mp hj).1
          rw [tl_len] at this
          exact this
        dsimp only [gName]
        have hstep : ∃ o2 : Option Nat, (∀ t, o2 = some t → t < F.fin.length ∧ Live F t ∧ ∃ k, o = some k) ∧ EvP (tMeth CC "step" (sp_Cm_step K CR CC) [] E0 (tVar 2) (tCons (tVar 6) (tCons (tVar 7) tNil))) [some (.ref p), some (.ref q), some (.ref c), some (.ref l), some (.ref d), some (.int (i : Nat)), some (.ref bs), some (.str ⟨#[ch]⟩), z8, none] A10 (HTV (sv ix mv o2)) := by
          cases o with
          | none => exact ⟨none, (fun t e => nomatch e), ev_stepM (o1 := none) (o2 := none) (a := "") (b := "") (j := j) (z := ch) C10 (by walk_at "ref") (ev_var rfl hds) (by walk_at "ev") (fun k e => nomatch e) (fun k e => nomatch e) hj (by decide) (by decide) (fun t x u y e => nomatch e)⟩
          | some k =>
            have hk := (hok k rfl).1
            obtain ⟨hn1, hn2⟩ := Vr.next RF.wf RS.wf C.lf C.ls hk hjl
            have hh := ev_stepM (o1 := some k) (o2 := some (ix k)) (a := mv k) (b := "") (j := j) (z := ch) (σ := [some (.ref p), some (.ref q), some (.ref c), some (.ref l), some (.ref d), some (.int (i : Nat)), some (.ref bs), some (.str ⟨#[ch]⟩), z8, none]) (to := tVar 2) (ta := tVar 6) (tb := tVar 7) C10 (by walk_at "ref") (ev_var rfl hds) (by walk_at "ev") (fun k e => by cases e; exact hk) (fun k e => by cases e; exact Vr.rng _ hk) hj (by have := (Vr.mo k hk).len; omega) (by decide) hn1
            rcases hn2 with e | ⟨t, ht, hl, e⟩
            · rw [e] at hh
              exact ⟨none, (fun t e => nomatch e), hh⟩
            · rw [e] at hh
              exact ⟨some t, (fun t' e => by cases e; exact ⟨ht, hl, k, rfl⟩), hh⟩
        obtain ⟨o2, ho2, hev⟩ := hstep
        refine s_asgP S10 hev fun v A11 B11 s11 S11 p11 => ?_
        obtain ⟨bf, rfl, hbf⟩ := p11
        have Ol11 := Ol10.go s11
        have Od11 := Od10.go s11
        have hsp := hsp.mono s11.kn
        have hdf : Dp K A11 (.ref bf) (sd ix mv o2) := sv_dp ⟨bf, rfl, hbf⟩
        walk_at "nx"
        cases o2 with
        | none =>
          refine s_if (K := K) (b := false) S11 (et_and (a := false) (b := false) (et_two (o1 := none) (o2 := none) (ev_var rfl hdf)) (fun z => nomatch z)) (fun z => nomatch z) (fun _ A12 B12 s12 S12 => ?_)
          exact ⟨A12, ((hA.trans s10.kn).trans s11.kn).trans s12.kn, S12.le, os, vs, od, _, _, rfl, S12, Ol11.go s12, Od11.go s12, hsp.mono s12.kn, hst, hoi⟩
        | some t =>
          obtain ⟨ht, hLt, k, rfl⟩ := ho2 t rfl
          rcases hst with rfl | ⟨ks, kvs, rfl, rfl, hnd, hkk, hkl, hkv⟩
          · have := List.mem_of_getElem? hoi
            simp at this
          have hkm : k ∈ ks := by
            have := List.mem_of_getElem? hoi
            rw [List.mem_map] at this
            obtain ⟨k', hk', e⟩ := this
            cases e
            exact hk'
          obtain ⟨x, hx1, hx2⟩ := (hkv k).1 hkm
          have hks := nodup_le F.fin.length ks hnd fun k hk2 => (hkk k hk2).1
          obtain ⟨Sf11, ef11⟩ := S11.frz Od11
          refine s_ifX (K := K) (b := !(valV kvs (kt ix mv t)).isSome) ef11 Sf11.le (et_and (a := true) (b := !(valV kvs (kt ix mv t)).isSome) (et_two (o1 := some t) (o2 := some (ix t)) (ev_var rfl (dp_mono ef11 hdf))) fun _ => et_dnotin (d := d) (b := bf) (by walk_at "ref") (by walk_at "ref") upd_same (ef11 _ _ hbf)) S11 (fun hb B12 s12 S12 => ?_) (fun hb B12 s12 S12 => ?_)
          · have htn : t ∉ ks := by
              intro hm
              obtain ⟨y, hy, _⟩ := (hkv t).1 hm
              rw [hy] at hb
              cases hb
            have Ol12 := Ol11.go s12
            have Od12 := Od11.go s12
            obtain ⟨Sf12, ef12⟩ := S12.frz Od12
            have hbs11 : A11 bs = some (.tup (sv ix mv (some k))) := s11.kn _ _ hbs10
            have hadd : (x ++ ⟨#[ch]⟩ : Str).length ≤ ks.length + 1 := by
              rw [len_app]
              have : (⟨#[ch]⟩ : Str).length = 1 := rfl
              omega
            walk_at "nx"
            refine st_dput (y := .str (x ++ ⟨#[ch]⟩)) (ks := kt ix mv t) ef12 Sf12.le (ev_vstr (K := K) (ev_addS (ev_ofV (ev_dget (d := d) (b := bs) (ks := kt ix mv k) (by walk_at "ref") (by walk_at "ref") upd_same (ef12 _ _ hbs11) hx1) fun _ => .str _) (by walk_at "ev") (by have : (⟨#[ch]⟩ : Str).length = 1 := rfl; omega))) rfl rfl S12 Od12 hbf (by omega) fun B13 s13 S13 O13 => ?_
            have Ol13 := (Ol12.go s13).other (o' := .dT (putK kvs (kt ix mv t) (.str (x ++ ⟨#[ch]⟩)))) hld
            walk_at "nx"
            refine st_app (K := K) (P := isV (.ref bf)) (ev_ref rfl) (by walk_at "ref") S13 Ol13 (by rw [hsp.1, List.length_map]; omega) fun v A14 B14 s14 p14 S14 O14 => ?_
            subst p14
            have hbf14 : HTV (sv ix mv (some t)) A14 (.ref bf) := ⟨bf, rfl, s14.kn _ _ hbf⟩
            have Od14 := (O13.go s14).other (o' := .lst (vs ++ [.ref bf])) hld.symm
            refine ⟨A14, ((hA.trans s10.kn).trans s11.kn).trans s14.kn, S14.le, ks.map some ++ [some t], _, _, _, _, rfl, S14, O14, Od14, (hsp.mono s14.kn).app hbf14, ?_, ?_⟩
            · refine .inr ⟨ks ++ [t], _, by rw [List.map_append]; rfl, rfl, ?_, fun k' hk' => ?_, ?_, fun k' => ⟨fun hk' => ?_, fun hk' => ?_⟩⟩
              · rw [List.nodup_append]
                exact ⟨hnd, by simp, fun a ha b hb e => by
                  rw [List.mem_singleton] at hb
                  subst hb e
                  exact htn ha⟩
              · rcases List.mem_append.mp hk' with h | h
                · exact hkk k' h
                · rw [List.mem_singleton] at h
                  subst h
                  exact ⟨ht, hLt⟩
              · have := length_putK kvs (kt ix mv t) (.str (x ++ ⟨#[ch]⟩))
                rw [List.length_append]
                show _ ≤ ks.length + 1
                omega
              · rw [valV_put]
                by_cases e : kt ix mv k' = kt ix mv t
                · rw [if_pos e]
                  exact ⟨_, rfl, by rw [List.length_append]; exact hadd⟩
                · rw [if_neg e]
                  have hm : k' ∈ ks := by
                    rcases List.mem_append.mp hk' with h | h
                    · exact h
                    · rw [List.mem_singleton] at h
                      subst h
                      exact absurd rfl e
                  obtain ⟨y, hy1, hy2⟩ := (hkv k').1 hm
                  exact ⟨y, hy1, by rw [List.length_append]; omega⟩
              · rw [List.mem_append, not_or] at hk'
                rw [valV_put, if_neg (fun e => hk'.2 (by rw [kt_inj e]; exact List.mem_singleton.mpr rfl))]
                exact (hkv k').2 hk'.1
            · rw [List.getElem?_append_left (by
                have := (List.getElem?_eq_some_iff.mp hoi).1
                exact this)]
              exact hoi
          · exact ⟨A11, ((hA.trans s10.kn).trans s11.kn), S12.le, ks.map some, vs, _, _, _, rfl, S12, Ol11.go s12, Od11.go s12, hsp, .inr ⟨ks, kvs, rfl, rfl, hnd, hkk, hkl, hkv⟩, hoi⟩
      · rintro σ' A B hA hB ⟨os', vs', od', z7, z8, rfl, S9, Ol9, Od9, hsp, hst, hoi⟩
        have hlen := hst.len nmax
        have hil' := (List.getElem?_eq_some_iff.mp hoi).1
        walk_at "nx"
        refine s_asg (K := K) (d := .int ((i : Int) + 1)) S9 (by walk_at "ev") fun v A10 B10 s10 S10 p10 => ?_
        have ev := dp_int p10
        subst ev
        exact ⟨A10, 5 - (i + 1), by omega, os', vs', od', i + 1, _, _, _, rfl, ((hE.trans s8.kn).trans s9.kn |>.trans hA).trans s10.kn, S10, Ol9.go s10, Od9.go s10, hsp.mono s10.kn, hst, by omega, rfl⟩
    · have S6 := S5.go s6
      have Ol6 := Ol.go s6
      obtain ⟨Sf6, ef6⟩ := S6.frz Ol6
      have hdl : Dp K (upd A l (.lst vs)) (.ref l) (.list (os.map (sd ix mv))) := .lst (SqL.of upd_same) (da_mono ef6 hsp.da)
      have hds : ∃ ks : List Nat, (os.filter fun o => !(o.isNone && o.isNone)).map (sd ix mv) = ks.map (fun k => eR (rw0 ix mv k)) ∧ ks.length ≤ 4 ∧ ∀ k ∈ ks, k < F.fin.length := by
        rcases hst with rfl | ⟨ks, kvs, rfl, _, hnd, hk, _, _⟩
        · exact ⟨[], rfl, by decide, fun k hk => nomatch hk⟩
        · refine ⟨ks, ?_, ?_, fun k h => (hk k h).1⟩
          · have e : (ks.map some).filter (fun o => !(o.isNone && o.isNone)) = ks.map some := by
              rw [List.filter_eq_self]
              intro o ho
              rw [List.mem_map] at ho
              obtain ⟨k, _, rfl⟩ := ho
              rfl
            rw [e, List.map_map]
            rfl
          · have := nodup_le F.fin.length ks hnd fun k hk2 => (hk k hk2).1
            omega
      obtain ⟨ks, hds, hkl, hkn⟩ := hds
      have C6 := C2.mono (hE.trans ef6)
      walk_at "nx"
      have hsrt := ev_sortedD (K := K) (te := tLc (iList K (tVar 3)) (gName 6) (tTest (tOp (rNeA K) (tSl (rSlAny K) (tVar 6) tNoPart (tPart (tC (.int 2)))) (tTup (tCons (tC .non) (tCons (tC .non) tNil))))) (tVar 6) [6]) (σ := [some (.ref p), some (.ref q), some (.ref c), some (.ref l), some (.ref d), some (.int (i : Nat)), z6, z7, z8, none]) (A := upd A l (.lst vs)) (ds := ks.map (fun k => eR (rw0 ix mv k))) (by
          rw [← hds]
          refine ev_lc os (sd ix mv) (fun o => !(o.isNone && o.isNone)) (sd ix mv) (src_list (ev_var rfl hdl)) (by omega) fun o ho x A7 B7 e7 f7 p7 => ⟨_, g_name, rfl, ?_, fun _ => ev_var rfl p7⟩
          cases o with
          | none => exact et_two (o1 := none) (o2 := none) (ev_var rfl p7)
          | some k => exact et_two (o1 := some k) (o2 := some (ix k)) (ev_var rfl p7)) (fun d hd d' hd' => by
          rw [List.mem_map] at hd hd'
          obtain ⟨a, _, rfl⟩ := hd
          obtain ⟨b, _, rfl⟩ := hd'
          exact alike_rows) (.inl fun d hd => by
          rw [List.mem_map] at hd
          obtain ⟨a, _, rfl⟩ := hd
          exact ⟨_, _, rfl⟩) (fun d hd => by
          rw [List.mem_map] at hd
          obtain ⟨a, _, rfl⟩ := hd
          rw [eR_depth]
          decide)
      refine s_asgP Sf6 hsrt fun v A7 B7 s7 S7 p7 => ?_
      obtain ⟨ds', hperm, hdv⟩ := p7
      obtain ⟨ks', hp', rfl⟩ := perm_map_inv hperm ks rfl
      have C7 := C6.mono s7.kn
      walk_at "nx"
      refine st_ret (P := isD K (.tuple [.str "same", eP ⟨goneL F nf, goneL S ns, ks'.map (rw0 ix mv)⟩])) ?_ S7.le fun v A8 B8 s8 p8 => k v A8 B8 ⟨goneL F nf, goneL S ns, ks'.map (rw0 ix mv)⟩ ?_ ?_ ?_ ?_ (S7.s.trans s8) p8
      · refine ev_tup (ds := [.str "same", eP ⟨goneL F nf, goneL S ns, ks'.map (rw0 ix mv)⟩]) (ead_cons (by walk_at "ev") (ead_cons ?_ ead_nil)) (Nat.le_of_ble_eq_true rfl)
        refine ev_addT (xs := [.tuple ((goneL F nf).map .int), .tuple ((goneL S ns).map .int)]) (ys := [.tuple ((ks'.map (rw0 ix mv)).map eR)]) (ev_goneM C7 (by walk_at "ref")) (ev_tup (ead_cons (ev_tupOfL ?_) ead_nil) (Nat.le_of_ble_eq_true rfl)) (Nat.le_of_ble_eq_true rfl)
        rw [List.map_map]
        exact ev_var rfl hdv
      · exact Nat.le_trans goneL_len nmax
      · exact Nat.le_trans goneL_len nmaxS
      · show (ks'.map (rw0 ix mv)).length ≤ 4
        rw [List.length_map, hp'.length_eq]
        exact hkl
      · intro r hr
        have hr : r ∈ ks'.map (rw0 ix mv) := hr
        rw [List.mem_map] at hr
        obtain ⟨k', hk', rfl⟩ := hr
        have hk2 := hkn k' (hp'.mem_iff.mp hk')
        exact ⟨Vr.mo k' hk2, ⟨by show (("" : Str)).length ≤ 20; decide, fun c hc => nomatch hc⟩⟩
end
-- W17
def isInt : Hp → V → Prop := fun _ v => ∃ i : Int, v = .int i
def sp_l_cell (K : PySem.W.Frag) (CR CC : Addr) : Sp := fun vs H Q _ => ∃ (A : Hp) (v : V) (ns : List Int) (k : Nat), vs = [v, .int (k : Nat)] ∧ Ex A H ∧ Dp K A v (.list (ns.map .int)) ∧ RetP A H Q isInt
def sp_l_numbers (K : PySem.W.Frag) (CR CC : Addr) : Sp := fun vs H Q _ => ∃ (A : Hp) (c : Int) (m : Nat), vs = [.int c, .int (m : Nat)] ∧ Ex A H ∧ m ≤ 1000 ∧ RetP A H Q fun A v => ∃ ns : List Int, ns.length = m ∧ HL K (ns.map .int) A v
def sp_l_state (K : PySem.W.Frag) (CR CC : Addr) : Sp := fun vs H Q _ => ∃ (A : Hp) (v : V) (ns : List Int), vs = [v, .int 0, .int 14] ∧ Ex A H ∧ Dp K A v (.list (ns.map .int)) ∧
  ∀ (s an : Addr) (ms : List Int) (A' B' : Hp), Stp A H A' B' → H s = none → A' s = none → B' s = some (.lst [.ref an, .int 0]) → ms.length = 280 → Dp K A' (.ref an) (.list (ms.map .int)) → Q (.ref s) B'
section
variable {P : Program} {w : World} {K : PySem.W.Frag} {mg : Str → Option Value} {base : Heap} {CR CC : Addr}
theorem ok_l_cell (Bm : Bl mg) (T : Txt K CR CC)  (F : DefF K mg "_law_cell" s_l_cell ["_law_script", "_law_k"]) : OkF P w K mg base 1 "_law_cell" ["_law_script", "_law_k"] (sp_l_cell K CR CC) := by
  refine okF_of F sc_l_cell (fun vs H Q E h => ?_) (fun f cdv Ar outer s H vs Q E hr h => ?_)
  · obtain ⟨A, v, ns, k, rfl, _⟩ := h
    rfl
  · obtain ⟨A0, v, ns, k, rfl, hx, hv, kk⟩ := h
    have hu := hu_of hr
    refine ⟨_, (pss_cons (ps_if (pt_cmpR op_lt (pv 1) (b_len K rfl Bm.m_len (pa_cons (pv 0) pa_nil)) (nomark _)) (pss_one (ps_ret (pe_ix (ix_K K) (pv 0) (pv 1) (fun _ _ => rfl)))) pss_nil)
      (pss_one (ps_ret pe_int))), ?_⟩
    have S0 : Tot (fun _ => False) A0 H A0 H := .refl hx
    refine s_if (K := K) (b := decide ((k : Int) < (ns.length : Int))) S0 (et_test (ev_ltI (by walk_at "ev") (ev_is (ev_len (d := .list (ns.map .int)) (by walk_at "ev") rfl) (by rw [List.length_map])))) (fun hb A1 B1 s1 S1 => ?_) (fun hb A1 B1 s1 S1 => ?_)
    · have hk : k < ns.length := by have := of_decide_eq_true hb; omega
      refine s_retP S1 kk (EvP.imp (P := isD K (.int ns[k])) (ev_ixL (ds := ns.map .int) (j := k) (by walk_at "ev") (by walk_at "ev") rfl ?_) fun A v _ p => ⟨_, dp_int p⟩)
      rw [List.getElem?_map, List.getElem?_eq_getElem hk]
      rfl
    · walk_at "nx"
      exact s_retP S1 kk (EvP.imp (P := isV (.int 0)) ev_cv fun A v _ p => ⟨_, p⟩)
theorem ok_l_numbers (Bm : Bl mg) (T : Txt K CR CC)  (F : DefF K mg "_law_numbers" s_l_numbers ["_law_cell_here", "_law_many"]) : OkF P w K mg base 1 "_law_numbers" ["_law_cell_here", "_law_many"] (sp_l_numbers K CR CC) := by
  refine okF_of F sc_l_numbers (fun vs H Q E h => ?_) (fun f cdv Ar outer s H vs Q E hr h => ?_)
  · obtain ⟨A, c, m, rfl, _⟩ := h
    rfl
  · obtain ⟨A0, c, m, rfl, hx, hm, kk⟩ := h
    have hu := hu_of hr
    refine ⟨_, (pss_cons (ps_set (i := 2) sc_l_numbers.nd rfl (Or.inl rfl) (b_abs K rfl Bm.m_abs (pa_cons (pv 0) pa_nil)))
      (pss_cons (ps_set (i := 3) sc_l_numbers.nd rfl (Or.inl rfl) (pv 2))
      (pss_cons (ps_set (i := 4) sc_l_numbers.nd rfl (Or.inl rfl) (pe_lst pa_nil))
      (pss_cons (ps_for PassesOwn.never rfl (pi_range1 rfl Bm.m_range (pa_cons (pv 1) pa_nil)) (pg_name (i := 5) sc_l_numbers.nd rfl (by first | exact Or.inl rfl | exact Or.inr rfl))
       (pss_one (ps_if (PW.pt (pw_and (pt_cmpR op_ge (pv 3) (pe_op op_pow pe_int pe_int) (nomark _)) (pw_and1 (pt_cmpR op_gt (pv 2) pe_int (nomark _))))) (pss_cons (ps_expr (bm_K K PySem.F.plainAttrs_list PySem.F.slot_list_append PySem.F.type_list_append mt_append (pv 4) (pa_cons (pe_op op_modN (b_int K rfl Bm.m_int (pa_cons (pv 2) pa_nil)) pe_int) pa_nil)))
          (pss_one (ps_set (i := 2) sc_l_numbers.nd rfl (Or.inl rfl) (pe_op op_fdivN (pv 2) pe_int)))) (pss_cons (ps_set (i := 6) sc_l_numbers.nd rfl (Or.inl rfl) (pe_op op_modN (b_int K rfl Bm.m_int (pa_cons (pe_op (plus_K K) (pe_op (plus_K K) (pe_op op_mul (pv 3) pe_int) (pe_op op_mul (pv 5) pe_int)) pe_int) pa_nil)) pe_int))
          (pss_cons (ps_set (i := 6) sc_l_numbers.nd rfl (Or.inl rfl) (pe_op op_modN (b_int K rfl Bm.m_int (pa_cons (pe_op (plus_K K) (pe_op (plus_K K) (pe_op op_mul (pv 6) (pv 6)) (pe_op op_mul pe_int (pv 5))) pe_int) pa_nil)) pe_int))
          (pss_one (ps_expr (bm_K K PySem.F.plainAttrs_list PySem.F.slot_list_append PySem.F.type_list_append mt_append (pv 4) (pa_cons (pe_op op_modN (b_int K rfl Bm.m_int (pa_cons (pe_op op_fdivN (pv 6) pe_int) pa_nil)) pe_int) pa_nil)))))))))
      (pss_one (ps_ret (pv 4))))))), ?_⟩
    have S0 : Tot (fun _ => False) A0 H A0 H := .refl hx
    refine s_asg (K := K) S0 (ev_abs (by walk_at "ev")) fun v A1 B1 s1 S1 p1 => ?_
    have ev := dp_int p1
    subst ev
    generalize (if c < 0 then -c else c) = w
    walk_at "nx"
    refine s_asg (K := K) (d := .int w) S1 (by walk_at "ev") fun v A2 B2 s2 S2 p2 => ?_
    have ev := dp_int p2
    subst ev
    walk_at "nx"
    refine st_new0 S2 fun l S3 O3 hl3 => ?_
    walk_at "nx"
    refine st_for (K := K) (xs := List.range m) (enc := fun i => .int (i : Nat)) (src_range1 (by walk_at "ev") (by omega)) S3.le fun A4 B4 s4 => ⟨fun i σ A B => ∃ (r : Int) (ns : List Int) (z5 z6 : Option V), σ = [some (.int c), some (.int (m : Nat)), some (.int r), some (.int w), some (.ref l), z5, z6] ∧ Tot (fun _ => False) A0 H A B ∧ Own A0 H A B l (.lst (ns.map V.int)) ∧ ns.length = i, ⟨_, [], _, _, rfl, S3.go s4, O3.go s4, rfl⟩, ?_, ?_⟩
    · rintro i j x σ' A B A5 B5 hi hA hB ⟨r, ns, z5, z6, rfl, S4, O4, hl⟩ s5 px
      have S5 := S4.go s5
      have O5 := O4.go s5
      have ex := dp_int px
      subst ex
      have him : i < m := by
        have := (List.getElem?_eq_some_iff.mp hi).1
        rw [List.length_range] at this
        exact this
      have fin : ∀ (n : Int) (r' : Int) (z6 : Option V) (A' B' : Hp), Ex A5 A' → Tot (fun _ => False) A0 H A' B' → Own A0 H A' B' l (.lst ((ns ++ [n]).map V.int)) →
          ∃ A4', Ex A4 A4' ∧ Ex A4' B' ∧ ∃ (r : Int) (ns : List Int) (z5 z6' : Option V), [some (.int c), some (.int (m : Nat)), some (.int r'), some (.int w), some (.ref l), some (.int (j : Nat)), z6] = [some (.int c), some (.int (m : Nat)), some (.int r), some (.int w), some (.ref l), z5, z6'] ∧ Tot (fun _ => False) A0 H A4' B' ∧ Own A0 H A4' B' l (.lst (ns.map V.int)) ∧ ns.length = i + 1 := fun n r' z6 A' B' e S O => ⟨A', (hA.trans s5.kn).trans e, S.le, r', ns ++ [n], _, z6, rfl, S, O, by rw [List.length_append, hl]; rfl⟩
      dsimp only [gName]
      refine s_if (K := K) (b := decide ((10 : Int) ^ (18 : Int).toNat ≤ w) && decide (0 < r)) S5 (et_and (et_test (ev_geI (by walk_at "ev") (ev_powI (by walk_at "ev") (by walk_at "ev") ⟨by decide, by decide, by decide⟩))) fun _ => et_test (ev_gtI (by walk_at "ev") (by walk_at "ev"))) (fun hb A6 B6 s6 S6 => ?_) (fun hb A6 B6 s6 S6 => ?_)
      · have O6 := O5.go s6
        walk_at "nx"
        refine st_app (K := K) (P := isD K (.int (r.fmod 1000))) (ev_ref rfl) (ev_modI (ev_int (by walk_at "ev")) (by walk_at "ev") (by decide)) S6 O6 (by rw [List.length_map]; omega) fun v A7 B7 s7 p7 S7 O7 => ?_
        have ev := dp_int p7
        subst ev
        walk_at "nx"
        refine s_asg (K := K) S7 (ev_divI (i := r) (j := 1000) (by walk_at "ev") (by walk_at "ev") ⟨by decide, by decide⟩) fun v A8 B8 s8 S8 p8 => ?_
        have ev := dp_int p8
        subst ev
        have O8 := O7.go s8
        rw [show ns.map V.int ++ [V.int (r.fmod 1000)] = (ns ++ [r.fmod 1000]).map V.int by rw [List.map_append]; rfl] at O8
        exact fin _ _ _ A8 B8 ((s6.kn.trans s7.kn).trans s8.kn) S8 O8
      · have O6 := O5.go s6
        walk_at "nx"
        refine s_asg (K := K) S6 (ev_modI (i := w * 48271 + (j : Int) * 69621 + 11) (j := 2147483647) (ev_int (ev_addI (ev_addI (ev_mulI (by walk_at "ev") (by walk_at "ev") (.inr ⟨by decide, by decide⟩)) (ev_mulI (by walk_at "ev") (by walk_at "ev") (.inr ⟨by decide, by decide⟩))) (by walk_at "ev"))) (by walk_at "ev") (by decide)) fun v A7 B7 s7 S7 p7 => ?_
        have ev := dp_int p7
        subst ev
        have b1 : 0 ≤ (w * 48271 + (j : Int) * 69621 + 11).fmod 2147483647 := Int.fmod_nonneg_of_pos _ (by decide)
        have b2 : (w * 48271 + (j : Int) * 69621 + 11).fmod 2147483647 < 2147483647 := Int.fmod_lt_of_pos _ (by decide)
        generalize (w * 48271 + (j : Int) * 69621 + 11).fmod 2147483647 = y at *
        walk_at "nx"
        refine s_asg (K := K) S7 (ev_modI (i := y * y + 40692 * (j : Int) + 3) (j := 2147483629) (ev_int (ev_addI (ev_addI (ev_mulI (by walk_at "ev") (by walk_at "ev") (.inr ⟨by omega, by omega⟩)) (ev_mulI (by walk_at "ev") (by walk_at "ev") (.inl ⟨by decide, by decide⟩))) (by walk_at "ev"))) (by walk_at "ev") (by decide)) fun v A8 B8 s8 S8 p8 => ?_
        have ev := dp_int p8
        subst ev
        generalize (y * y + 40692 * (j : Int) + 3).fmod 2147483629 = u
        walk_at "nx"
        refine st_app (K := K) (P := isD K (.int ((u.fdiv 7).fmod 1000))) (ev_ref rfl) (ev_modI (ev_int (ev_divI (i := u) (j := 7) (by walk_at "ev") (by walk_at "ev") ⟨by decide, by decide⟩)) (by walk_at "ev") (by decide)) S8 ((O6.go s7).go s8) (by rw [List.length_map]; omega) fun v A9 B9 s9 p9 S9 O9 => ?_
        have ev := dp_int p9
        subst ev
        rw [show ns.map V.int ++ [V.int ((u.fdiv 7).fmod 1000)] = (ns ++ [(u.fdiv 7).fmod 1000]).map V.int by rw [List.map_append]; rfl] at O9 S9
        rw [show ns.map V.int ++ [V.int ((u.fdiv 7).fmod 1000)] = (ns ++ [(u.fdiv 7).fmod 1000]).map V.int by rw [List.map_append]; rfl]
        exact fin _ _ _ A9 _ (((s6.kn.trans s7.kn).trans s8.kn).trans s9.kn) S9 O9
    · rintro σ' A B hA hB ⟨r, ns, z5, z6, rfl, S4, O4, hl⟩
      rw [List.length_range] at hl
      obtain ⟨Sf, ef⟩ := S4.frz O4
      walk_at "nx"
      refine s_retP Sf kk (ev_varP (v := .ref l) rfl fun A' e => ⟨ns, hl, l, ns.map V.int, rfl, e _ _ upd_same, da_ints ns⟩)
end
-- W18
section
variable {P : Program} {w : World} {K : PySem.W.Frag} {mg : Str → Option Value} {base : Heap} {CR CC : Addr}
theorem ev_addHL {σ : L2.St} {A0 : Hp} {ta tb : TE} {xs : List PyData} {q : List Int → Prop} (ha : EvL K ta σ A0 xs) (hb : EvP tb σ A0 fun A v => ∃ ns : List Int, q ns ∧ HL K (ns.map .int) A v) (hl : ∀ ns, q ns → xs.length + ns.length ≤ 1000000) : EvP (tOp (rPlus K) ta tb) σ A0 fun A v => ∃ ns : List Int, q ns ∧ HL K (xs ++ ns.map .int) A v := fun A B a b Q q =>
  ha A B a b _ fun u A1 B1 s1 p => hb A1 B1 (a.trans s1.kn) s1.le _ fun v A2 B2 s2 q2 => by
    obtain ⟨ns, hq, q2⟩ := q2
    obtain ⟨l1, us, rfl, h1, pa⟩ := p.mono s2.kn
    obtain ⟨l2, ws, rfl, h2, pb⟩ := q2
    have e1 := da_len pa
    have e2 := da_len pb
    have e3 := hl ns hq
    rw [List.length_map] at e2
    refine .inr (.inr (.inl ⟨l1, l2, us, ws, rfl, rfl, s2.le _ _ h1, s2.le _ _ h2, Nat.le_trans (by omega : us.length + ws.length ≤ 1000000) (by decide), fun p hp => ?_⟩))
    exact q _ (upd A2 p (.lst (us ++ ws))) _ ((s1.trans s2).trans (.new s2.le hp)) ⟨ns, hq, p, us ++ ws, rfl, upd_same, da_mono (StpM.new (M := fun _ => False) s2.le hp).kn (da_app pa pb)⟩
theorem ok_l_state (Bm : Bl mg) (T : Txt K CR CC) (O_l_cell : OkF P w K mg base 1 "_law_cell" ["_law_script", "_law_k"] (sp_l_cell K CR CC)) (O_l_numbers : OkF P w K mg base 1 "_law_numbers" ["_law_cell_here", "_law_many"] (sp_l_numbers K CR CC)) (F : DefF K mg "_law_state" s_l_state ["_law_script", "_law_start", "_law_many"]) : OkF P w K mg base 2 "_law_state" ["_law_script", "_law_start", "_law_many"] (sp_l_state K CR CC) := by
  refine okF_of F sc_l_state (fun vs H Q E h => ?_) (fun f cdv Ar outer s H vs Q E hr h => ?_)
  · obtain ⟨A, v, ns, rfl, _⟩ := h
    rfl
  · obtain ⟨A0, v, ns, rfl, hx, hv, kk⟩ := h
    have hu := hu_of hr
    refine ⟨_, (pss_cons (ps_set (i := 3) sc_l_state.nd rfl (Or.inl rfl) (pe_lst pa_nil))
      (pss_cons (ps_for PassesOwn.never rfl (pi_range2 rfl Bm.m_range (pa_cons (pv 1) (pa_cons (pe_op (plus_K K) (pv 1) (pv 2)) pa_nil))) (pg_name (i := 4) sc_l_state.nd rfl (by first | exact Or.inl rfl | exact Or.inr rfl))
       (pss_cons (ps_set (i := 5) sc_l_state.nd rfl (Or.inl rfl) (pe_F O_l_cell (hr.mono (by decide)) rfl (pa_cons (pv 0) (pa_cons (pv 4) pa_nil))))
        (pss_cons (ps_if (pt_cmpR op_lt (b_abs K rfl Bm.m_abs (pa_cons (pv 5) pa_nil)) (pe_op op_pow pe_int pe_int) (nomark _)) (pss_one (ps_set (i := 5) sc_l_state.nd rfl (Or.inl rfl) (pe_op (plus_K K) (pe_op op_mul (pv 5) pe_int) (pv 4)))) pss_nil)
        (pss_one (ps_set (i := 3) sc_l_state.nd rfl (Or.inl rfl) (pe_op (plus_K K) (pv 3) (pe_F O_l_numbers (hr.mono (by decide)) rfl (pa_cons (pv 5) (pa_cons pe_int pa_nil)))))))))
      (pss_one (ps_ret (pe_lst (pa_cons (pv 3) (pa_cons pe_int pa_nil))))))), ?_⟩
    have S0 : Tot (fun _ => False) A0 H A0 H := .refl hx
    refine s_asgP S0 (evl_lst (K := K) ead_nil (Nat.zero_le _)) fun v3 A1 B1 s1 S1 p1 => ?_
    walk_at "nx"
    refine st_for (K := K) (xs := List.range (14 - 0)) (enc := fun i => .int (((0 : Nat) : Int) + (i : Nat))) (src_range2 (m := 0) (n := 14) (ev_var rfl (.int _)) (ev_is (ev_addI (i := 0) (j := 14) (by walk_at "ev") (by walk_at "ev")) rfl) (by decide) (by decide)) S1.le fun A2 B2 s2 => ⟨fun i σ A B => ∃ (ms : List Int) (v3 : V) (z4 z5 : Option V), σ = [some v, some (.int 0), some (.int 14), some v3, z4, z5] ∧ Tot (fun _ => False) A0 H A B ∧ HL K (ms.map .int) A v3 ∧ ms.length = 20 * i, ⟨[], _, _, _, rfl, S1.go s2, p1.mono s2.kn, rfl⟩, ?_, ?_⟩
    · rintro i j x σ' A B A3 B3 hi hA hB ⟨ms, v3, z4, z5, rfl, S2, h3, hl⟩ s3 px
      have S3 := S2.go s3
      have h3 := h3.mono s3.kn
      have ex := dp_int px
      have e0 : (((0 : Nat) : Int) + (j : Nat)) = (j : Nat) := by omega
      rw [e0] at ex
      subst ex
      have hi14 : i < 14 := (List.getElem?_eq_some_iff.mp hi).1
      have hE : Ex A0 A3 := ((s1.kn.trans s2.kn).trans hA).trans s3.kn
      dsimp only [gName]
      have hc : EvP (tCall (sp_l_cell K CR CC) [] E0 (tCons (tVar 0) (tCons (tVar 4) tNil))) [some v, some (.int 0), some (.int 14), some v3, some (.int (j : Nat)), z5] A3 isInt := by
        refine ev_call (R := fun A vs => PsAt A [isD K (.list (ns.map .int)), isV (.int (j : Nat))] vs) (eap_cons (P := isD K (.list (ns.map .int))) (ev_var rfl (dp_mono hE hv)) mon_d (eap_cons (by walk_at "ref") mon_v eap_nil)) fun A B vs e f r Q k => ?_
        obtain ⟨u, u2, rfl, r1, rfl⟩ := ps_two r
        exact ⟨A, u, ns, j, rfl, f, r1, k⟩
      refine s_asgP S3 hc fun v5 A4 B4 s4 S4 p4 => ?_
      obtain ⟨c, rfl⟩ := p4
      have tail : ∀ (c : Int) (A5 B5 : Hp), Ex A3 A5 → Tot (fun _ => False) A0 H A5 B5 → tAsg (tOp (rPlus K) (tVar 3) (tCall (sp_l_numbers K CR CC) [] E0 (tCons (tVar 5) (tCons (tC (.int 20)) tNil)))) (gName 3) { nx := fun σ3 B4 => ∃ A4, Ex A2 A4 ∧ Ex A4 B4 ∧ ∃ (ms : List Int) (v3 : V) (z4 z5 : Option V), σ3 = [some v, some (.int 0), some (.int 14), some v3, z4, z5] ∧ Tot (fun _ => False) A0 H A4 B4 ∧ HL K (ms.map .int) A4 v3 ∧ ms.length = 20 * (i + 1), rt := Q, ct := fun σ3 B4 => ∃ A4, Ex A2 A4 ∧ Ex A4 B4 ∧ ∃ (ms : List Int) (v3 : V) (z4 z5 : Option V), σ3 = [some v, some (.int 0), some (.int 14), some v3, z4, z5] ∧ Tot (fun _ => False) A0 H A4 B4 ∧ HL K (ms.map .int) A4 v3 ∧ ms.length = 20 * (i + 1), bk := fun σ H => (tRet (tLst (tCons (tVar 3) (tCons (tC (.int 0)) tNil)))) { nx := fun x H' => Q V.non H', rt := Q } σ H } [some v, some (.int 0), some (.int 14), some v3, some (.int (j : Nat)), some (.int c)] B5 := by
        intro c A5 B5 e5 S5
        refine s_asgP S5 (ev_addHL (K := K) (xs := ms.map .int) (q := fun ns => ns.length = 20) (ev_varP rfl fun A' e => h3.mono (e5.trans e)) ?_ fun ns h => by rw [List.length_map]; omega) fun v6 A6 B6 s6 S6 p6 => ?_
        · refine ev_call (R := fun A vs => PsAt A [isV (.int c), isV (.int 20)] vs) (eap_cons (by walk_at "ref") mon_v (eap_cons ev_cv mon_v eap_nil)) fun A B vs e f r Q k => ?_
          obtain ⟨u, u2, rfl, rfl, rfl⟩ := ps_two r
          exact ⟨A, c, 20, rfl, f, by decide, k⟩
        · obtain ⟨ns2, h2, h6⟩ := p6
          exact ⟨A6, (hA.trans s3.kn).trans (e5.trans s6.kn), S6.le, ms ++ ns2, v6, _, _, rfl, S6, by rw [List.map_append]; exact h6, by rw [List.length_append]; omega⟩
      walk_at "nx"
      refine s_if (K := K) (b := decide ((if c < 0 then -c else c) < (10 : Int) ^ (18 : Int).toNat)) S4 (et_test (ev_ltI (ev_abs (by walk_at "ev")) (ev_powI (by walk_at "ev") (by walk_at "ev") ⟨by decide, by decide, by decide⟩))) (fun hb A5 B5 s5 S5 => ?_) (fun hb A5 B5 s5 S5 => ?_)
      · refine s_asg (K := K) S5 (ev_addI (ev_mulI (i := c) (j := 61) (by walk_at "ev") (by walk_at "ev") (.inr ⟨by decide, by decide⟩)) (by walk_at "ev")) fun v6 A6 B6 s6 S6 p6 => ?_
        have ev := dp_int p6
        subst ev
        walk_at "nx"
        exact tail _ A6 B6 ((s4.kn.trans s5.kn).trans s6.kn) S6
      · walk_at "nx"
        exact tail _ A5 B5 (s4.kn.trans s5.kn) S5
    · rintro σ' A B hA hB ⟨ms, v3, z4, z5, rfl, S2, h3, hl⟩
      rw [List.length_range] at hl
      obtain ⟨an, us, rfl, ha, pa⟩ := h3
      have hd : Dp K A (.ref an) (.list (ms.map .int)) := .lst (SqL.of ha) pa
      walk_at "nx"
      have hargs : EvA (tCons (tVar 3) (tCons (tC (.int 0)) tNil)) [some v, some (.int 0), some (.int 14), some (.ref an), z4, z5] A fun A vs => PsAt A [isV (.ref an), isV (.int 0)] vs := eap_cons (by walk_at "ref") mon_v (eap_cons ev_cv mon_v eap_nil)
      unfold tRet tLst
      refine hargs A B (Ex.refl _) S2.le _ fun vs A3 B3 s3 r => ?_
      obtain ⟨u, u2, rfl, rfl, rfl⟩ := ps_two r
      refine ⟨by show (2 : Nat) ≤ sizeLine; decide, fun x hn => ?_⟩
      have S3 := S2.go s3
      obtain ⟨S4, O4⟩ := S3.newU (o := .lst [.ref an, .int 0]) hn
      exact kk x an ms A3 _ S4.s O4.new O4.unk O4.at_ (by omega) (dp_mono s3.kn hd)
end
-- W19
/-! ### the state of the drawing: a list that every call changes -/
def SS (s an : Addr) (A B : Hp) : Prop := A s = none ∧ ∃ pl : Nat, B s = some (.lst [.ref an, .int (pl : Nat)])
structure NumA (K : PySem.W.Frag) (A : Hp) (an : Addr) : Prop where
  ex : ∃ ns : List Int, ns.length = 280 ∧ Dp K A (.ref an) (.list (ns.map .int))
abbrev Stq (s : Addr) (A B A' B' : Hp) : Prop := StpM (fun a => a = s) A B A' B'
section
variable {K : PySem.W.Frag} {s an : Addr} {σ : L2.St} {A0 A1 A B A' B' B0 : Hp} {te ta tb : TE} {tA tr : TA} {tt tu : TT} {P P1 P2 P3 P4 R : Hp → V → Prop} {Ps : List (Hp → V → Prop)} {D : Ends}
theorem SS.go (Z : SS s an A B) (t : Stp A B A' B') : SS s an A' B' := by
  obtain ⟨h1, pl, h2⟩ := Z
  exact ⟨t.sp s (by rw [h2]; simp) h1, pl, t.al _ _ (fun z => z) h2⟩
theorem NumA.mono (e : Ex A A') (h : NumA K A an) : NumA K A' an := by
  obtain ⟨ns, h1, h2⟩ := h.ex
  exact ⟨ns, h1, dp_mono e h2⟩
def EvS (s an : Addr) (te : TE) (σ : L2.St) (A0 : Hp) (P : Hp → V → Prop) : Prop := ∀ A B, Ex A0 A → Ex A B → SS s an A B → ∀ Q : VK, (∀ v A' B', Stq s A B A' B' → SS s an A' B' → P A' v → Q v B') → te σ B Q
def EvSA (s an : Addr) (ta : TA) (σ : L2.St) (A0 : Hp) (P : Hp → List V → Prop) : Prop := ∀ A B, Ex A0 A → Ex A B → SS s an A B → ∀ Q : List V → Hp → Prop, (∀ v A' B', Stq s A B A' B' → SS s an A' B' → P A' v → Q v B') → ta σ B Q
/-- a test whose answer is not told -/
def EvST (s an : Addr) (tt : TT) (σ : L2.St) (A0 : Hp) (P : Bool → Prop) : Prop := ∀ A B, Ex A0 A → Ex A B → SS s an A B → ∀ Q : Bool → Hp → Prop, (∀ b A' B', P b → Stq s A B A' B' → SS s an A' B' → Q b B') → tt σ B Q
theorem evs (h : EvP te σ A0 P) : EvS s an te σ A0 P := fun A B a b Z Q q => h A B a b Q fun v A' B' t p => q v A' B' t.up (Z.go t) p
theorem evst {b : Bool} (h : EvT K tt σ A0 b) : EvST s an tt σ A0 fun c => c = b := fun A B a c Z Q q => h A B a c Q fun A' B' t => q b A' B' rfl t.up (Z.go t)
theorem EvS.imp (h : EvS s an te σ A0 P) (e : ∀ A v, Ex A0 A → P A v → R A v) : EvS s an te σ A0 R := fun A B a b Z Q q => h A B a b Z Q fun v A' B' t z p => q v A' B' t z (e A' v (a.trans t.kn) p)
theorem EvS.mono (h : EvS s an te σ A0 P) (e : Ex A0 A1) : EvS s an te σ A1 P := fun A B a b Z Q q => h A B (e.trans a) b Z Q q
theorem evsa_nil : EvSA s an tNil σ A0 fun A vs => PsAt A [] vs := fun A B _ b Z Q q => q [] A B (.refl b) Z trivial
theorem evsa_cons (h : EvS s an te σ A0 P) (m : Mon P) (hr : EvSA s an tr σ A0 fun A vs => PsAt A Ps vs) : EvSA s an (tCons te tr) σ A0 fun A vs => PsAt A (P :: Ps) vs :=
  fun A B a b Z Q q => h A B a b Z _ fun v A1 B1 s1 z1 p => hr A1 B1 (a.trans s1.kn) s1.le z1 _ fun vs A2 B2 s2 z2 p2 => q (v :: vs) A2 B2 (s1.trans s2) z2 ⟨m _ _ _ s2.kn p, p2⟩
/-- an operator -/
theorem evs_op {r : R2} (ha : EvS s an ta σ A0 P1) (hb : EvS s an tb σ A0 P2) (m : Mon P1) (h : ∀ A u v, Ex A0 A → P1 A u → P2 A v → EvP (tOp r (tVar 0) (tVar 1)) [some u, some v] A P) : EvS s an (tOp r ta tb) σ A0 P := fun A B a b Z Q q =>
  ha A B a b Z _ fun u A1 B1 s1 z1 p1 => hb A1 B1 (a.trans s1.kn) s1.le z1 _ fun v A2 B2 s2 z2 p2 => by
    have hh := h A2 u v ((a.trans s1.kn).trans s2.kn) (m _ _ _ s2.kn p1) p2 A2 B2 (Ex.refl _) s2.le Q fun w A3 B3 s3 p3 => q w A3 B3 ((s1.trans s2).go s3) (z2.go s3) p3
    obtain ⟨x, hx, y, hy, hr⟩ := hh
    cases hx
    cases hy
    exact hr
theorem evs_tup (h : EvSA s an tA σ A0 fun A vs => PsAt A Ps vs) (m : ∀ A A' vs, Ex A A' → PsAt A Ps vs → PsAt A' Ps vs) (hl : ∀ A vs, PsAt A Ps vs → vs.length ≤ 1000) : EvS s an (tTup tA) σ A0 fun A v => ∃ a vs, v = .ref a ∧ A a = some (.tup vs) ∧ PsAt A Ps vs := fun A B a b Z Q q =>
  h A B a b Z _ fun vs A1 B1 s1 z1 p => ⟨Nat.le_trans (hl _ _ p) (by decide), fun x hx => q _ (upd A1 x (.tup vs)) _ (s1.go (.new s1.le hx)) (z1.go (.new s1.le hx)) ⟨x, vs, rfl, upd_same, m _ _ _ (StpM.new (M := fun _ => False) s1.le hx).kn p⟩⟩
theorem evs_if {Pb : Bool → Prop} (h : EvST s an tt σ A0 Pb) (h1 : Pb true → EvS s an ta σ A0 P) (h2 : Pb false → EvS s an tb σ A0 P) : EvS s an (tIf tt ta tb) σ A0 P := fun A B a c Z Q q => h A B a c Z _ fun b A1 B1 pb s1 z1 => by
  cases b with
  | true => exact h1 pb A1 B1 (a.trans s1.kn) s1.le z1 Q fun v A2 B2 s2 z2 p => q v A2 B2 (s1.trans s2) z2 p
  | false => exact h2 pb A1 B1 (a.trans s1.kn) s1.le z1 Q fun v A2 B2 s2 z2 p => q v A2 B2 (s1.trans s2) z2 p
/-- f(..) of a callee that draws -/
theorem evs_call {sp : Sp} (h : EvSA s an tA σ A0 fun A vs => PsAt A Ps vs) (hs : ∀ A B vs, Ex A0 A → Ex A B → SS s an A B → PsAt A Ps vs → ∀ Q : VK, (∀ v A' B', Stq s A B A' B' → SS s an A' B' → P A' v → Q v B') → sp vs B Q E0) : EvS s an (tCall sp [] E0 tA) σ A0 P := fun A B a b Z Q q =>
  h A B a b Z _ fun vs A1 B1 s1 z1 p => by
    rw [List.append_nil]
    exact hs A1 B1 vs (a.trans s1.kn) s1.le z1 p Q fun v A2 B2 s2 z2 p2 => q v A2 B2 (s1.trans s2) z2 p2
/-- [elt for x in ..], the items draw -/
theorem evs_lc {α : Type} {wi : TI} {g : TG} {vs : List Nat} {Pe : Hp → V → Prop} (xs : List α) (enc : α → PyData) (hs : Src K wi σ A0 (xs.map enc)) (hl : xs.length ≤ 1000000) (hm : Mon Pe)
    (ht : ∀ a ∈ xs, ∀ x A B, Ex A0 A → Ex A B → Dp K A x (enc a) → ∃ σ2, GEv g (wipe σ vs) B x σ2 ∧ wipe σ2 vs = wipe σ vs ∧ EvS s an te σ2 A Pe) :
    EvS s an (tLc wi g tYes te vs) σ A0 fun A v => ∃ l us, v = .ref l ∧ A l = some (.lst us) ∧ us.length = xs.length ∧ ∀ u ∈ us, Pe A u := fun A B a b Z Q k => hs A B a b _ fun J A1 B1 G Y s1 W hG hY => by
  intro Dl hD
  rw [List.length_map] at W hY
  have Z1 := Z.go s1
  have hsD : Dl ≠ s := by
    intro e
    obtain ⟨_, pl, h⟩ := Z1
    rw [e, h] at hD
    cases hD
  let Pv : Nat → Hp → Prop := fun i H => ∃ A2, Stq s A1 B1 A2 H ∧ SS s an A2 H ∧ A2 Dl = none ∧ ∃ us, H Dl = some (.lst us) ∧ us.length = i ∧ ∀ u ∈ us, Pe A2 u
  have hD0 : A1 Dl = none := ex_none s1.le hD
  have hDB : B Dl = none := by
    cases e : B Dl with
    | none => rfl
    | some u => exact absurd hD (s1.th Dl (by rw [e]; simp))
  refine lc_it W Pv ⟨A1, .newU s1.le hD, Z1.go (.newU s1.le hD), hD0, [], upd_same, rfl, fun _ h => nomatch h⟩ (fun i H _ ⟨A2, S, _⟩ => hG H S.ex0) (fun i x H H' hi ⟨A2, S, Z2, n2, us, hu, hul, pu⟩ y => ?_) (fun H ⟨A2, S, Z2, n2, us, hu, hul, pu⟩ => ?_)
  · obtain ⟨A3, s3, d, hd, px⟩ := hY i H x H' A2 hi y S.kn S.le
    rw [List.getElem?_map, List.getElem?_eq_getElem hi] at hd
    cases hd
    have S3 := S.go s3
    have Z3 := Z2.go s3
    have n3 : A3 Dl = none := s3.sp Dl (by rw [hu]; simp) n2
    have h3 : H' Dl = some (.lst us) := s3.al _ _ (fun z => z) hu
    obtain ⟨σ2, hg, hw, hE⟩ := ht xs[i] (List.getElem_mem hi) x A3 H' ((a.trans s1.kn).trans S3.kn) S3.le px
    refine hg _ ⟨hw, ?_⟩
    unfold tYes
    dsimp only
    rw [if_pos rfl]
    refine hE A3 H' (Ex.refl _) S3.le Z3 _ fun v A5 B5 s5 z5 p5 => ?_
    have S5 := S3.trans s5
    have n5 : A5 Dl = none := s5.sp Dl (by rw [h3]; simp) n3
    have h5 : B5 Dl = some (.lst us) := s5.al _ _ hsD h3
    have S6 : Stq s A1 B1 A5 (upd B5 Dl (.lst (us ++ [v]))) := S5.mut (.inl hD) n5
    have Z6 : SS s an A5 (upd B5 Dl (.lst (us ++ [v]))) := by
      obtain ⟨q1, pl, q2⟩ := z5
      exact ⟨q1, pl, by rw [upd_ne (Ne.symm hsD)]; exact q2⟩
    refine ⟨us, h5, by rw [hul]; exact Nat.lt_of_lt_of_le (Nat.lt_of_lt_of_le hi hl) (by decide), A5, S6, Z6, n5, us ++ [v], upd_same, by rw [List.length_append, hul]; rfl, fun u hu2 => ?_⟩
    rcases List.mem_append.mp hu2 with h | h
    · exact hm _ _ _ (s3.kn.trans s5.kn) (pu u h)
    · rw [List.mem_singleton] at h
      subst h
      exact p5
  · have S' : Stq s A B (upd A2 Dl (.lst us)) H := ((s1.up (M := fun a => a = s)).trans S).frz hDB n2 hu
    have Z' : SS s an (upd A2 Dl (.lst us)) H := by
      obtain ⟨q1, pl, q2⟩ := Z2
      exact ⟨by rw [upd_ne (Ne.symm hsD)]; exact q1, pl, q2⟩
    exact k _ _ H S' Z' ⟨Dl, us, rfl, upd_same, hul, fun u h => hm _ _ _ (Ex.new n2) (pu u h)⟩
/-- range(n), n drawn: a comprehension -/
theorem evs_lcR {g : TG} {tt : TT} {vs : List Nat} {Pn : Nat → Prop} (hn : EvS s an ta σ A0 fun _ v => ∃ n : Nat, Pn n ∧ v = .int (n : Nat)) (h : ∀ (n : Nat), Pn n → ∀ A, Ex A0 A → EvS s an (tLc (iRng1 (tCons (tC (.int (n : Nat))) tNil)) g tt te vs) σ A P) : EvS s an (tLc (iRng1 (tCons ta tNil)) g tt te vs) σ A0 P := fun A B a b Z Q q =>
  hn A B a b Z _ fun v A1 B1 s1 z1 p => by
    obtain ⟨n, hp, rfl⟩ := p
    exact h n hp A1 (a.trans s1.kn) A1 B1 (Ex.refl _) s1.le z1 Q fun v A2 B2 s2 z2 p2 => q v A2 B2 (s1.trans s2) z2 p2
/-! ### statements -/
theorem Tot.goS (S : Tot (fun a => a = s) A0 B0 A B) (t : Stq s A B A' B') : Tot (fun a => a = s) A0 B0 A' B' := S.goM t
theorem z_asg {i : Nat} (S : Tot (fun a => a = s) A0 B0 A B) (Z : SS s an A B) (h : EvS s an te σ A P) (k : ∀ v A' B', Stq s A B A' B' → Tot (fun a => a = s) A0 B0 A' B' → SS s an A' B' → P A' v → D.nx (σ.set i (some v)) B') : tAsg te (gName i) D σ B :=
  h A B (Ex.refl _) S.le Z _ fun v A' B' t z p => k v A' B' t (S.goS t) z p
theorem z_if {Pb : Bool → Prop} {tu tw : TS} (S : Tot (fun a => a = s) A0 B0 A B) (Z : SS s an A B) (h : EvST s an tt σ A Pb) (h1 : Pb true → ∀ A' B', Stq s A B A' B' → Tot (fun a => a = s) A0 B0 A' B' → SS s an A' B' → tu D σ B') (h2 : Pb false → ∀ A' B', Stq s A B A' B' → Tot (fun a => a = s) A0 B0 A' B' → SS s an A' B' → tw D σ B') : tIfS tt tu tw D σ B :=
  h A B (Ex.refl _) S.le Z _ fun b A' B' pb t z => by
    cases b with
    | true => exact iteT (h1 pb A' B' t (S.goS t) z)
    | false => exact iteF (h2 pb A' B' t (S.goS t) z)
def RetS (s an : Addr) (A B : Hp) (Q : VK) (P : Hp → V → Prop) : Prop := ∀ v A' B', Stq s A B A' B' → SS s an A' B' → P A' v → Q v B'
theorem z_ret (S : Tot (fun a => a = s) A0 B0 A B) (Z : SS s an A B) (k : RetS s an A0 B0 D.rt P) (h : EvS s an te σ A P) : tRet te D σ B :=
  h A B (Ex.refl _) S.le Z _ fun v A1 B1 t z p => k v A1 B1 (S.s.trans t) z p
/-- for x in range(n), n drawn -/
theorem z_forR {g : TG} {tb : TS} {Pn : Nat → Prop} (S : Tot (fun a => a = s) A0 B0 A B) (Z : SS s an A B) (hn : EvS s an ta σ A fun _ v => ∃ n : Nat, Pn n ∧ v = .int (n : Nat)) (k : ∀ n, Pn n → ∀ A' B', Stq s A B A' B' → Tot (fun a => a = s) A0 B0 A' B' → SS s an A' B' → tFor (iRng1 (tCons (tC (.int (n : Nat))) tNil)) g tb D σ B') : tFor (iRng1 (tCons ta tNil)) g tb D σ B :=
  hn A B (Ex.refl _) S.le Z _ fun v A1 B1 t z p => by
    obtain ⟨n, hp, rfl⟩ := p
    exact k n hp A1 B1 t (S.goS t) z
/-- x.append(e), e draws -/
theorem z_app {l : Addr} {xs : List V} (ho : ∀ A, EvP ta σ A fun _ v => v = .ref l) (h : EvS s an te σ A P) (S : Tot (fun a => a = s) A0 B0 A B) (Z : SS s an A B) (O : Own A0 B0 A B l (.lst xs)) (hls : l ≠ s) (hl : xs.length ≤ 1000000)
    (k : ∀ v A' B', Stq s A B A' B' → P A' v → Tot (fun a => a = s) A0 B0 A' (upd B' l (.lst (xs ++ [v]))) → SS s an A' (upd B' l (.lst (xs ++ [v]))) → Own A0 B0 A' (upd B' l (.lst (xs ++ [v]))) l (.lst (xs ++ [v])) → D.nx σ (upd B' l (.lst (xs ++ [v])))) :
    tDrop (tBM K "list" rAppend ta (tCons te tNil)) D σ B := ho A A B (Ex.refl _) S.le _ fun v A1 B1 s1 e => by
  subst e
  have s1 := s1.back (Ex.refl _)
  have O1 := O.go s1
  refine ⟨.inl ⟨rfl, xs, SqL.of O1.at_⟩, h A B1 (Ex.refl _) s1.le (Z.go s1) _ fun w A2 B2 s2 z2 p => ?_⟩
  have O2 := O1.goM s2 hls
  have Z3 : SS s an A2 (upd B2 l (.lst (xs ++ [w]))) := by
    obtain ⟨q1, pl, q2⟩ := z2
    exact ⟨q1, pl, by rw [upd_ne (Ne.symm hls)]; exact q2⟩
  exact ⟨l, xs, w, rfl, rfl, O2.at_, Nat.lt_of_le_of_lt hl (by decide), k w A2 B2 (s1.up.trans s2) p (((S.go s1).goS s2).mut O2) Z3 O2.put⟩
theorem SS.putO {l : Addr} {o : HO} (Z : SS s an A B) (h : l ≠ s) : SS s an A (upd B l o) := by
  obtain ⟨q1, pl, q2⟩ := Z
  exact ⟨q1, pl, by rw [upd_ne (Ne.symm h)]; exact q2⟩
theorem SS.frz {l : Addr} {o : HO} (Z : SS s an A B) (h : l ≠ s) : SS s an (upd A l o) B := by
  obtain ⟨q1, pl, q2⟩ := Z
  exact ⟨by rw [upd_ne (Ne.symm h)]; exact q1, pl, q2⟩
end
def sp_l_next (K : PySem.W.Frag) (CR CC : Addr) : Sp := fun vs H Q _ => ∃ (A : Hp) (s an : Addr) (m : Nat), vs = [.ref s, .int (m : Nat)] ∧ Ex A H ∧ SS s an A H ∧ NumA K A an ∧ 0 < m ∧ m ≤ 1000000 ∧ RetS s an A H Q fun _ v => ∃ r : Nat, r < m ∧ v = .int (r : Nat)
section
variable {P : Program} {w : World} {K : PySem.W.Frag} {mg : Str → Option Value} {base : Heap} {CR CC : Addr}
theorem ok_l_next (Bm : Bl mg) (T : Txt K CR CC)  (F : DefF K mg "_law_next" s_l_next ["_law_state_here", "_law_many"]) : OkF P w K mg base 1 "_law_next" ["_law_state_here", "_law_many"] (sp_l_next K CR CC) := by
  refine okF_of F sc_l_next (fun vs H Q E h => ?_) (fun f cdv Ar outer s H vs Q E hr h => ?_)
  · obtain ⟨A, s, an, m, rfl, _⟩ := h
    rfl
  · obtain ⟨A0, s, an, m, rfl, hx, ⟨z1, pl, z2⟩, N, hm, hm2, kk⟩ := h
    have hu := hu_of hr
    refine ⟨_, (pss_cons (ps_set (i := 2) sc_l_next.nd rfl (Or.inl rfl) (pe_ix (ix_K K) (pv 0) pe_int (fun _ _ => rfl)))
      (pss_cons (ps_set (i := 3) sc_l_next.nd rfl (Or.inl rfl) (pe_ix (ix_K K) (pv 0) pe_int (fun _ _ => rfl)))
      (pss_cons (ps_asg (pe_op (plus_K K) (pv 3) pe_int) (pg_sub (pv 0) pe_int set_list))
      (pss_one (ps_ret (pe_op op_modN (b_int K rfl Bm.m_int (pa_cons (pe_op (plus_K K) (pe_ix (ix_K K) (pv 2) (pe_op op_modN (pv 3) (b_len K rfl Bm.m_len (pa_cons (pv 2) pa_nil))) (fun _ _ => rfl)) (pe_op op_mul (pe_op op_fdivN (pv 3) (b_len K rfl Bm.m_len (pa_cons (pv 2) pa_nil))) pe_int)) pa_nil)) (pv 1))))))), ?_⟩
    obtain ⟨ns, hns, hdn⟩ := N.ex
    have S0 : Tot (fun a => a = s) A0 H A0 H := .refl hx
    have e0 : Ex A0 (upd A0 s (.lst [.ref an, .int (pl : Nat)])) := Ex.new z1
    have f0 : ∀ A B, Ex A B → A s = none → B s = some (.lst [.ref an, .int (pl : Nat)]) → Ex (upd A s (.lst [.ref an, .int (pl : Nat)])) B := fun A B e n h a u q => by
      by_cases ea : a = s
      · rw [ea, upd_same] at q; rw [ea, h]; exact q
      · rw [upd_ne ea] at q; exact e a u q
    refine s_asgX (P := isV (.ref an)) e0 (f0 _ _ hx z1 z2) (ev_ixX (K := K) (j := 0) (by walk_at "ref") upd_same (ev_c fun _ => .int _) rfl rfl) S0 fun v A1 B1 _ s1 S1 p1 => ?_
    subst p1
    have z2' := s1.al _ _ (fun z => z) z2
    walk_at "nx"
    refine s_asgX (P := isV (.int (pl : Nat))) e0 (f0 _ _ s1.le z1 z2') (ev_ixX (K := K) (j := 1) (by walk_at "ref") upd_same (ev_c fun _ => .int _) rfl rfl) S1 fun v A2 B2 _ s2 S2 p2 => ?_
    subst p2
    have z2'' := s2.al _ _ (fun z => z) z2'
    walk_at "nx"
    have hadd : EvD K (tOp (rPlus K) (tVar 3) (tC (.int 1))) [some (.ref s), some (.int (m : Nat)), some (.ref an), some (.int (pl : Nat))] A0 (.int ((pl : Nat) + 1)) := by walk_at "ev"
    refine hadd A0 B2 (Ex.refl _) S2.le _ fun v A3 B3 s3 p3 => ?_
    have ev := dp_int p3
    subst ev
    have s3 := s3.back (Ex.refl _)
    have S3 := S2.go s3
    have z3 := s3.al _ _ (fun z => z) z2''
    refine ⟨_, rfl, s, _, 1, 1, rfl, rfl, z3, rfl, ?_⟩
    have S4 : Tot (fun a => a = s) A0 H A0 (upd B3 s (.lst [.ref an, .int ((pl : Nat) + 1)])) := ⟨S3.s.mut (.inr rfl) z1⟩
    have Z4 : SS s an A0 (upd B3 s (.lst [.ref an, .int ((pl : Nat) + 1)])) := ⟨z1, pl + 1, upd_same⟩
    walk_at "nx"
    have i1 : 0 ≤ ((pl : Nat) : Int).fmod 280 := Int.fmod_nonneg_of_pos _ (by decide)
    have i2 : ((pl : Nat) : Int).fmod 280 < 280 := Int.fmod_lt_of_pos _ (by decide)
    have hlen : EvD K (tCB (rLen K) (tCons (tVar 2) tNil)) [some (.ref s), some (.int (m : Nat)), some (.ref an), some (.int (pl : Nat))] A0 (.int 280) := ev_is (ev_len (d := .list (ns.map .int)) (ev_var rfl hdn) rfl) (by rw [List.length_map, hns]; rfl)
    have hi : (((pl : Nat) : Int).fmod 280).toNat < ns.length := by omega
    refine z_ret S4 Z4 kk (evs (EvP.imp (P := isD K (.int ((ns[(((pl : Nat) : Int).fmod 280).toNat] + ((pl : Nat) : Int).fdiv 280 * 7).fmod (m : Nat)))) (ev_modI (ev_int (ev_addI (ev_ixL (ds := ns.map .int) (j := (((pl : Nat) : Int).fmod 280).toNat) (ev_var rfl hdn) (ev_modI (by walk_at "ev") hlen (by decide)) (by omega) ?_) (ev_mulI (ev_divI (by walk_at "ev") hlen ⟨by decide, by decide⟩) (by walk_at "ev") (.inr ⟨by decide, by decide⟩)))) (by walk_at "ev") (by omega)) fun A v _ p => ?_))
    · rw [List.getElem?_map, List.getElem?_eq_getElem hi]
      rfl
    · have hm' : (0 : Int) < (m : Nat) := by omega
      have b1 := Int.fmod_nonneg_of_pos (ns[(((pl : Nat) : Int).fmod 280).toNat] + ((pl : Nat) : Int).fdiv 280 * 7) hm'
      have b2 := Int.fmod_lt_of_pos (ns[(((pl : Nat) : Int).fmod 280).toNat] + ((pl : Nat) : Int).fdiv 280 * 7) hm'
      exact ⟨((ns[(((pl : Nat) : Int).fmod 280).toNat] + ((pl : Nat) : Int).fdiv 280 * 7).fmod (m : Nat)).toNat, by omega, by rw [dp_int p, Int.toNat_of_nonneg b1]⟩
/-- _law_next(state, many) -/
theorem evs_next {σ : L2.St} {A : Hp} {s an : Addr} {i m : Nat} {tm : TE} (hN : NumA K A an) (hi : σ[i]? = some (some (.ref s))) (hm : EvD K tm σ A (.int (m : Nat))) (h0 : 0 < m) (h1 : m ≤ 1000000) : EvS s an (tCall (sp_l_next K CR CC) [] E0 (tCons (tVar i) (tCons tm tNil))) σ A fun _ v => ∃ r : Nat, r < m ∧ v = .int (r : Nat) :=
  evs_call (Ps := [isV (.ref s), isV (.int (m : Nat))]) (evsa_cons (evs (ev_varP hi fun _ _ => rfl)) mon_v (evsa_cons (evs (ev_vint hm)) mon_v evsa_nil)) fun A1 B1 vs e f Z r Q k => by
    obtain ⟨u, v, rfl, rfl, rfl⟩ := ps_two r
    exact ⟨A1, s, an, m, rfl, f, Z, hN.mono e, h0, h1, k⟩
end
-- W20
def sp_l_letters (K : PySem.W.Frag) (CR CC : Addr) : Sp := fun vs H Q _ => ∃ (A : Hp) (s an : Addr), vs = [.ref s, .int 2] ∧ Ex A H ∧ SS s an A H ∧ NumA K A an ∧ RetS s an A H Q fun _ v => ∃ L : Str, LOk L ∧ v = .str L
/-- a word of the drawing -/
structure Wo (L x : Str) : Prop where
  len : x.length ≤ 2
  mem : ∀ c ∈ tl x, c ∈ tl L
theorem Wo.tx {L x : Str} (h : Wo L x) : Tx L x := ⟨by have := h.len; omega, h.mem⟩
def sp_l_word (K : PySem.W.Frag) (CR CC : Addr) : Sp := fun vs H Q _ => ∃ (A : Hp) (s an : Addr) (L : Str), vs = [.str L, .ref s, .int 2] ∧ Ex A H ∧ SS s an A H ∧ NumA K A an ∧ LOk L ∧ RetS s an A H Q fun _ v => ∃ x : Str, Wo L x ∧ v = .str x
theorem joinL_one : ∀ cs : List Nat, TL.joinL [] (cs.map fun c => [c]) = cs
  | [] => rfl
  | [_] => rfl
  | a :: b :: r => by
    have ih := joinL_one (b :: r)
    show [a] ++ ([] ++ TL.joinL [] ((b :: r).map fun c => [c])) = _
    rw [ih]
    rfl
theorem join_one (cs : List Nat) : Txt.join "" (cs.map fun c => (⟨#[c]⟩ : Str)) = ⟨cs.toArray⟩ := by
  refine TL.ext_tl ?_
  rw [TL.join_eq, TL.tl_join, List.map_map]
  exact joinL_one cs
theorem sgl_list {us : List V} {p : Nat → Prop} (h : ∀ u ∈ us, ∃ c : Nat, p c ∧ u = .str ⟨#[c]⟩) : ∃ cs : List Nat, us = (cs.map fun c => (⟨#[c]⟩ : Str)).map V.str ∧ cs.length = us.length ∧ ∀ c ∈ cs, p c := by
  induction us with
  | nil => exact ⟨[], rfl, rfl, fun _ h => nomatch h⟩
  | cons u us ih =>
    obtain ⟨cs, h1, h2, h3⟩ := ih fun u hu => h u (List.mem_cons_of_mem _ hu)
    obtain ⟨c, hc, rfl⟩ := h u List.mem_cons_self
    exact ⟨c :: cs, by rw [h1]; rfl, by simp [h2], fun d hd => by
      rcases List.mem_cons.mp hd with rfl | hd
      · exact hc
      · exact h3 d hd⟩
theorem sum_one (cs : List Nat) : ((cs.map fun c => (⟨#[c]⟩ : Str)).map (·.length)).sum = cs.length := by
  induction cs with
  | nil => rfl
  | cons c cs ih =>
    simp only [List.map_cons, List.sum_cons, ih, List.length_cons]
    have : (⟨#[c]⟩ : Str).length = 1 := rfl
    omega
section
variable {K : PySem.W.Frag} {s an : Addr} {σ : L2.St} {A0 : Hp} {te ta tb : TE}
theorem evs_join0 {p : Nat → Prop} {n : Nat} (h : EvS s an te σ A0 fun A v => ∃ l us, v = .ref l ∧ A l = some (.lst us) ∧ us.length ≤ n ∧ ∀ u ∈ us, ∃ c : Nat, p c ∧ u = .str ⟨#[c]⟩) (hn : n ≤ 1000) : EvS s an (tM1 (rJoin K) (tC (.str "")) te) σ A0 fun _ v => ∃ cs : List Nat, cs.length ≤ n ∧ (∀ c ∈ cs, p c) ∧ v = .str ⟨cs.toArray⟩ := fun A B a b Z Q q =>
  ⟨⟨"", rfl⟩, h A B a b Z _ fun v A2 B2 s2 z2 p2 => by
    obtain ⟨l, us, rfl, hl, hle, hu⟩ := p2
    obtain ⟨cs, rfl, h2, h3⟩ := sgl_list hu
    refine ⟨"", l, cs.map fun c => (⟨#[c]⟩ : Str), rfl, rfl, .inl (.inl (.inl (s2.le _ _ hl))), ?_, ?_⟩
    · rw [sum_one]
      have : ("" : Str).length = 0 := rfl
      rw [this, Nat.mul_zero]
      exact Nat.le_trans (by omega : cs.length + 0 ≤ 1000) (by decide)
    · rw [join_one]
      exact q _ A2 B2 s2 z2 ⟨cs, by omega, h3, rfl⟩⟩
/-- x[next(..)] of a text -/
theorem evs_ixS {z : Str} {m : Nat} (h1 : EvD K ta σ A0 (.str z)) (h2 : EvS s an tb σ A0 fun _ v => ∃ r : Nat, r < m ∧ v = .int (r : Nat)) (hm : m ≤ z.length) (hl : z.length ≤ 1000000) : EvS s an (tOp (rIx K) ta tb) σ A0 fun _ v => ∃ c : Nat, c ∈ tl z ∧ v = .str ⟨#[c]⟩ :=
  evs_op (P1 := isD K (.str z)) (evs h1) h2 mon_d fun A u v e p1 p2 => by
    obtain ⟨r, hr, rfl⟩ := p2
    have hr2 : r < (tl z).length := by rw [tl_len]; omega
    refine EvP.imp (P := isD K (.str ⟨#[(tl z)[r]]⟩)) (ev_ixS (ev_var rfl p1) (ev_var rfl (.int _)) hl (atI_nat (List.getElem?_eq_getElem hr2))) fun A v _ p => ⟨_, List.getElem_mem hr2, dp_str p⟩
end
section
variable {P : Program} {w : World} {K : PySem.W.Frag} {mg : Str → Option Value} {base : Heap} {CR CC : Addr}
theorem ok_l_letters (Bm : Bl mg) (T : Txt K CR CC) (O_l_next : OkF P w K mg base 1 "_law_next" ["_law_state_here", "_law_many"] (sp_l_next K CR CC)) (F : DefF K mg "_law_letters" s_l_letters ["_law_state_here", "_law_most"]) : OkF P w K mg base 2 "_law_letters" ["_law_state_here", "_law_most"] (sp_l_letters K CR CC) := by
  refine okF_of F sc_l_letters (fun vs H Q E h => ?_) (fun f cdv Ar outer s H vs Q E hr h => ?_)
  · obtain ⟨A, s, an, rfl, _⟩ := h
    rfl
  · obtain ⟨A0, s, an, rfl, hx, Z0, N, kk⟩ := h
    have hu := hu_of hr
    refine ⟨_, (pss_cons (ps_set (i := 2) sc_l_letters.nd rfl (Or.inl rfl) pe_str)
      (pss_cons (ps_set (i := 3) sc_l_letters.nd rfl (Or.inl rfl) pe_str)
      (pss_cons (ps_for PassesOwn.never rfl (pi_range1 rfl Bm.m_range (pa_cons (pe_op (plus_K K) pe_int (pe_F O_l_next (hr.mono (by decide)) rfl (pa_cons (pv 0) (pa_cons (pv 1) pa_nil)))) pa_nil)) (pg_name (i := 4) sc_l_letters.nd rfl (by first | exact Or.inl rfl | exact Or.inr rfl))
       (pss_cons (ps_set (i := 5) sc_l_letters.nd rfl (Or.inl rfl) (pe_ix (ix_K K) (pv 2) (pe_F O_l_next (hr.mono (by decide)) rfl (pa_cons (pv 0) (pa_cons pe_int pa_nil))) (fun _ _ => rfl)))
        (pss_one (ps_if (pt_cmpR (ni_K K hr) (pv 5) (pv 3) (by rfl)) (pss_one (ps_set (i := 3) sc_l_letters.nd rfl (Or.inl rfl) (pe_op (plus_K K) (pv 3) (pv 5)))) pss_nil))))
      (pss_one (ps_ret (pv 3)))))), ?_⟩
    have S0 : Tot (fun a => a = s) A0 H A0 H := .refl hx
    refine z_asg (P := isD K (.str "abcdefghijklmnopqrstuvwxyzABCDEFGHIJKLMNOPQRSTUVWXYZ0123456789<>=:_@#")) S0 Z0 (evs (by walk_at "ev")) fun v A1 B1 s1 S1 Z1 p1 => ?_
    have ev := dp_str p1
    subst ev
    have pl : ("abcdefghijklmnopqrstuvwxyzABCDEFGHIJKLMNOPQRSTUVWXYZ0123456789<>=:_@#" : Str).length = 69 := by decide +kernel
    have pm : ∀ c ∈ tl ("abcdefghijklmnopqrstuvwxyzABCDEFGHIJKLMNOPQRSTUVWXYZ0123456789<>=:_@#" : Str), c < 1000 := by
      have h : (tl ("abcdefghijklmnopqrstuvwxyzABCDEFGHIJKLMNOPQRSTUVWXYZ0123456789<>=:_@#" : Str)).all (· < 1000) = true := by decide +kernel
      rw [List.all_eq_true] at h
      intro c hc
      simpa using h c hc
    generalize ("abcdefghijklmnopqrstuvwxyzABCDEFGHIJKLMNOPQRSTUVWXYZ0123456789<>=:_@#" : Str) = pool at *
    walk_at "nx"
    refine z_asg (P := isD K (.str "")) S1 Z1 (evs (by walk_at "ev")) fun v A2 B2 s2 S2 Z2 p2 => ?_
    have ev := dp_str p2
    subst ev
    have N2 := (N.mono s1.kn).mono s2.kn
    walk_at "nx"
    refine z_forR (Pn := fun n => 1 ≤ n ∧ n ≤ 2) S2 Z2 (evs_op (r := rPlus K) (P1 := isV (.int 1)) (evs ev_cv) (evs_next (CR := CR) (CC := CC) (m := 2) N2 rfl (by walk_at "ev") (by decide) (by decide)) mon_v fun A u v e p1 p2 => ?_) fun n hn A3 B3 s3 S3 Z3 => ?_
    · obtain ⟨r, hr, rfl⟩ := p2
      subst p1
      exact EvP.imp (P := isD K (.int (1 + (r : Nat)))) (ev_addI (ev_var rfl (.int _)) (ev_var rfl (.int _))) fun A v _ p => ⟨1 + r, ⟨by omega, by omega⟩, by rw [dp_int p, show ((1 + r : Nat) : Int) = 1 + (r : Nat) by omega]⟩
    · refine st_for (K := K) (xs := List.range n) (enc := fun i => .int (i : Nat)) (src_range1 (by walk_at "ev") (by omega)) S3.le fun A4 B4 s4 => ⟨fun i σ A B => ∃ (L : Str) (z4 z5 : Option V), σ = [some (.ref s), some (.int 2), some (.str pool), some (.str L), z4, z5] ∧ Tot (fun a => a = s) A0 H A B ∧ SS s an A B ∧ L.length ≤ i ∧ (0 < i → 0 < L.length) ∧ (tl L).Nodup ∧ ∀ c ∈ tl L, c < 1000, ⟨"", _, _, rfl, S3.go s4, Z3.go s4, Nat.zero_le _, fun h => absurd h (Nat.lt_irrefl _), List.nodup_nil, fun c h => nomatch h⟩, ?_, ?_⟩
      · rintro i j x σ' A B A5 B5 hi hA hB ⟨L, z4, z5, rfl, S4, Z4, hl, hp, hnd, hsm⟩ s5 px
        have S5 := S4.go s5
        have Z5 := Z4.go s5
        have N5 := ((N2.mono s3.kn).mono s4.kn).mono (hA.trans s5.kn)
        have hin : i < n := by
          have := (List.getElem?_eq_some_iff.mp hi).1
          rw [List.length_range] at this
          exact this
        dsimp only [gName]
        refine z_asg S5 Z5 (evs_ixS (K := K) (z := pool) (m := 69) (by walk_at "ev") (evs_next (CR := CR) (CC := CC) (m := 69) N5 rfl (by walk_at "ev") (by decide) (by decide)) (by omega) (by omega)) fun v A6 B6 s6 S6 Z6 p6 => ?_
        obtain ⟨c, hc, rfl⟩ := p6
        walk_at "nx"
        refine z_if (Pb := fun b => b = !decide (c ∈ tl L)) S6 Z6 (evst (et_test (ev_inS (neg := true) (c := c) (z := L) (by walk_at "ev") (by walk_at "ev")))) (fun hb A7 B7 s7 S7 Z7 => ?_) (fun hb A7 B7 s7 S7 Z7 => ?_)
        · have hcn : c ∉ tl L := by simpa using hb.symm
          refine z_asg (P := isD K (.str (L ++ ⟨#[c]⟩))) S7 Z7 (evs (ev_addS (by walk_at "ev") (by walk_at "ev") (by have : (⟨#[c]⟩ : Str).length = 1 := rfl; omega))) fun v A8 B8 s8 S8 Z8 p8 => ?_
          have ev := dp_str p8
          subst ev
          have e1 : (⟨#[c]⟩ : Str).length = 1 := rfl
          have e2 : tl (⟨#[c]⟩ : Str) = [c] := rfl
          refine ⟨A8, ((hA.trans s5.kn).trans (s6.kn.trans s7.kn)).trans s8.kn, S8.le, L ++ ⟨#[c]⟩, _, _, rfl, S8, Z8, by rw [len_app]; omega, fun _ => by rw [len_app]; omega, ?_, ?_⟩
          · rw [tl_app, e2, List.nodup_append]
            exact ⟨hnd, by simp, fun a ha b hb e => by
              rw [List.mem_singleton] at hb
              subst hb e
              exact hcn ha⟩
          · intro d hd
            rw [tl_app, e2] at hd
            rcases List.mem_append.mp hd with h | h
            · exact hsm d h
            · rw [List.mem_singleton] at h
              subst h
              exact pm d hc
        · have hcn : c ∈ tl L := by simpa using hb.symm
          have hpos : 0 < (tl L).length := List.length_pos_of_mem hcn
          rw [tl_len] at hpos
          exact ⟨A7, ((hA.trans s5.kn).trans (s6.kn.trans s7.kn)), S7.le, L, _, _, rfl, S7, Z7, by omega, fun _ => hpos, hnd, hsm⟩
      · rintro σ' A B hA hB ⟨L, z4, z5, rfl, S4, Z4, hl, hp, hnd, hsm⟩
        rw [List.length_range] at hl hp
        walk_at "nx"
        exact z_ret S4 Z4 kk (evs (ev_varP rfl fun _ _ => ⟨L, ⟨hp (by omega), by omega, hnd, hsm⟩, rfl⟩))
theorem ok_l_word (Bm : Bl mg) (T : Txt K CR CC) (O_l_next : OkF P w K mg base 1 "_law_next" ["_law_state_here", "_law_many"] (sp_l_next K CR CC)) (F : DefF K mg "_law_word" s_l_word ["_law_letters_here", "_law_state_here", "_law_most"]) : OkF P w K mg base 2 "_law_word" ["_law_letters_here", "_law_state_here", "_law_most"] (sp_l_word K CR CC) := by
  refine okF_of F sc_l_word (fun vs H Q E h => ?_) (fun f cdv Ar outer s H vs Q E hr h => ?_)
  · obtain ⟨A, s, an, L, rfl, _⟩ := h
    rfl
  · obtain ⟨A0, s, an, L, rfl, hx, Z0, N, lok, kk⟩ := h
    have hu := hu_of hr
    refine ⟨_, (pss_one (ps_ret (join_K K pe_str (pe_lc (own := [("_law_k", 3)]) rfl sc_l_word.nd (pi_range1 rfl Bm.m_range (pa_cons (pe_F O_l_next (hr.mono (by decide)) rfl (pa_cons (pv 1) (pa_cons (pe_op (plus_K K) (pv 2) pe_int) pa_nil))) pa_nil)) (blkOk_by (N := N_l_word) (sc := defScope s_l_word) (by decide +kernel)) (fun _ _ _ _ _ => (pg_name (i := 3) sc_l_word.nd rfl (by first | exact Or.inl rfl | exact Or.inr rfl))) (fun _ _ _ _ _ => pts_nil) (fun _ _ _ _ _ => (pe_ix (ix_K K) (pv 0) (pe_F O_l_next (hr.mono (by decide)) rfl (pa_cons (pv 1) (pa_cons (b_len K rfl Bm.m_len (pa_cons (pv 0) pa_nil)) pa_nil))) (fun _ _ => rfl))))))), ?_⟩
    have S0 : Tot (fun a => a = s) A0 H A0 H := .refl hx
    have l1 := lok.pos
    have l2 := lok.two
    have hlet : ∀ (A : Hp), Ex A0 A → ∀ σ : L2.St, σ[0]? = some (some (.str L)) → σ[1]? = some (some (.ref s)) → EvS s an (tOp (rIx K) (tVar 0) (tCall (sp_l_next K CR CC) [] E0 (tCons (tVar 1) (tCons (tCB (rLen K) (tCons (tVar 0) tNil)) tNil)))) σ A fun _ v => ∃ c : Nat, c ∈ tl L ∧ v = .str ⟨#[c]⟩ := fun A e σ h0 h1 =>
      evs_ixS (ev_var h0 (.str _)) (evs_next (m := L.length) (N.mono e) h1 (ev_len (d := .str L) (ev_var h0 (.str _)) (if_pos (by omega))) (by omega) (by omega)) (Nat.le_refl _) (by omega)
    refine z_ret S0 Z0 kk (EvS.imp (evs_join0 (p := fun c => c ∈ tl L) (n := 2) (evs_lcR (Pn := fun n => n < 3) (evs_next (CR := CR) (CC := CC) (m := 3) N rfl (ev_is (ev_addI (i := 2) (j := 1) (by walk_at "ev") (by walk_at "ev")) rfl) (by decide) (by decide)) fun n hn A e => ?_) (by decide)) fun A v _ p => ?_)
    · refine EvS.imp (evs_lc (K := K) (Pe := fun _ v => ∃ c : Nat, c ∈ tl L ∧ v = .str ⟨#[c]⟩) (List.range n) (fun i => .int (i : Nat)) (src_range1 (by walk_at "ev") (by omega)) (by rw [List.length_range]; omega) (fun _ _ _ _ h => h) fun a ha x A1 B1 e1 f1 p1 => ⟨_, g_name, rfl, hlet A1 (e.trans e1) _ rfl rfl⟩) fun A v _ p => ?_
      obtain ⟨l, us, h1, h2, h3, h4⟩ := p
      rw [List.length_range] at h3
      exact ⟨l, us, h1, h2, by omega, h4⟩
    · obtain ⟨cs, h1, h2, rfl⟩ := p
      exact ⟨_, ⟨by show cs.toArray.size ≤ 2; rw [List.size_toArray]; exact h1, h2⟩, rfl⟩
end
-- W21
theorem pick_list {K : PySem.W.Frag} {A : Hp} {α : Type} {q : α → Prop} {enc : α → PyData} : ∀ {us : List V}, (∀ u ∈ us, ∃ a : α, q a ∧ Dp K A u (enc a)) → ∃ as : List α, as.length = us.length ∧ (∀ a ∈ as, q a) ∧ DpAll K A us (as.map enc)
  | [], _ => ⟨[], rfl, (fun _ h => nomatch h), .nil⟩
  | u :: us, h => by
    obtain ⟨as, h1, h2, h3⟩ := pick_list (us := us) fun u hu => h u (List.mem_cons_of_mem _ hu)
    obtain ⟨a, ha, hd⟩ := h u List.mem_cons_self
    exact ⟨a :: as, by simp [h1], fun d hd => by
      rcases List.mem_cons.mp hd with rfl | hd
      · exact ha
      · exact h2 d hd, .cons hd h3⟩
/-- the parts are drawn -/
structure Mk3 (L : Str) (P : Rw) : Prop where
  pos : 1 ≤ P.fin.length
  max : P.fin.length ≤ 3
  len : P.tab.length = P.fin.length
  row : ∀ r ∈ P.tab, r.length = L.length
  way : ∀ r ∈ P.tab, ∀ t x, some (t, x) ∈ r → t < P.fin.length ∧ Wo L x
  fins : ∀ x, some x ∈ P.fin → Wo L x
  lead : Wo L P.lead
theorem Mk3.wf {L : Str} {P : Rw} (h : Mk3 L P) : Wf L P := ⟨h.pos, by have := h.max; omega, h.len, h.row, fun r hr t x hx => ⟨(h.way r hr t x hx).1, (h.way r hr t x hx).2.tx⟩, fun x hx => (h.fins x hx).tx, h.lead.tx⟩
def sp_l_maker (K : PySem.W.Frag) (CR CC : Addr) : Sp := fun vs H Q _ => ∃ (A : Hp) (s an : Addr) (L : Str), vs = [.str L, .ref s, .int 3] ∧ Ex A H ∧ SS s an A H ∧ NumA K A an ∧ LOk L ∧ RetS s an A H Q fun A v => ∃ P : Rw, Mk3 L P ∧ Dp K A v (eParts P)
section
variable {K : PySem.W.Frag} {CR CC : Addr} {s an : Addr} {σ : L2.St} {A0 A B B0 : Hp} {te ta tb : TE} {P : Hp → V → Prop}
theorem evs_word {L : Str} {i j : Nat} (hN : NumA K A0 an) (lok : LOk L) (hi : σ[i]? = some (some (.str L))) (hj : σ[j]? = some (some (.ref s))) : EvS s an (tCall (sp_l_word K CR CC) [] E0 (tCons (tVar i) (tCons (tVar j) (tCons (tC (.int 2)) tNil)))) σ A0 fun _ v => ∃ x : Str, Wo L x ∧ v = .str x :=
  evs_call (Ps := [isV (.str L), isV (.ref s), isV (.int 2)]) (evsa_cons (evs (ev_varP hi fun _ _ => rfl)) mon_v (evsa_cons (evs (ev_varP hj fun _ _ => rfl)) mon_v (evsa_cons (evs ev_cv) mon_v evsa_nil))) fun A1 B1 vs e f Z r Q k => by
    obtain ⟨u, v, w, rfl, rfl, rfl, rfl⟩ := ps_three r
    exact ⟨A1, s, an, L, rfl, f, Z, hN.mono e, lok, k⟩
theorem est_eq0 {m : Nat} (h : EvS s an te σ A0 fun _ v => ∃ r : Nat, r < m ∧ v = .int (r : Nat)) {z : Int} : EvST s an (tTest (tOp (rEqA K) te (tC (.int z)))) σ A0 fun _ => True := fun A B a c Z Q q => by
  have hh := evs_op (r := rEqA K) (P := fun _ v => ∃ b : Bool, v = .bl b) (tb := tC (.int z)) (P2 := isV (.int z)) h (evs ev_cv) (fun _ _ _ _ h => h) (fun A u v e p1 p2 => by
    obtain ⟨r, _, rfl⟩ := p1
    subst p2
    exact EvP.imp (P := isD K (.bool (decide ((r : Int) = z)))) (ev_eqS (ev_var rfl (.int _)) (ev_var rfl (.int _)) rfl) fun A v _ p => ⟨_, dp_bl p⟩)
  exact hh A B a c Z _ fun v A1 B1 s1 z1 ⟨b, hb⟩ => ⟨b, hb, q b A1 B1 trivial s1 z1⟩
theorem evs_tup2 {P1 P2 : Hp → V → Prop} (h1 : EvS s an ta σ A0 P1) (h2 : EvS s an tb σ A0 P2) (m1 : Mon P1) (m2 : Mon P2) : EvS s an (tTup (tCons ta (tCons tb tNil))) σ A0 fun A v => ∃ a u w, v = .ref a ∧ A a = some (.tup [u, w]) ∧ P1 A u ∧ P2 A w :=
  EvS.imp (evs_tup (Ps := [P1, P2]) (evsa_cons h1 m1 (evsa_cons h2 m2 evsa_nil)) (fun A A' vs e r => by
    obtain ⟨u, v, rfl, r1, r2⟩ := ps_two r
    exact ⟨m1 _ _ _ e r1, m2 _ _ _ e r2, trivial⟩) (fun A vs r => by
    obtain ⟨u, v, rfl, r1, r2⟩ := ps_two r
    show 2 ≤ 1000
    decide)) fun A v _ p => by
    obtain ⟨a, vs, rfl, ha, r⟩ := p
    obtain ⟨u, w, rfl, r1, r2⟩ := ps_two r
    exact ⟨a, u, w, rfl, ha, r1, r2⟩
theorem evs_tup3 {tc : TE} {P1 P2 P3 : Hp → V → Prop} (h1 : EvS s an ta σ A0 P1) (h2 : EvS s an tb σ A0 P2) (h3 : EvS s an tc σ A0 P3) (m1 : Mon P1) (m2 : Mon P2) (m3 : Mon P3) : EvS s an (tTup (tCons ta (tCons tb (tCons tc tNil)))) σ A0 fun A v => ∃ a u w x, v = .ref a ∧ A a = some (.tup [u, w, x]) ∧ P1 A u ∧ P2 A w ∧ P3 A x :=
  EvS.imp (evs_tup (Ps := [P1, P2, P3]) (evsa_cons h1 m1 (evsa_cons h2 m2 (evsa_cons h3 m3 evsa_nil))) (fun A A' vs e r => by
    obtain ⟨u, v, w, rfl, r1, r2, r3⟩ := ps_three r
    exact ⟨m1 _ _ _ e r1, m2 _ _ _ e r2, m3 _ _ _ e r3, trivial⟩) (fun A vs r => by
    obtain ⟨u, v, w, rfl, r1, r2⟩ := ps_three r
    show 3 ≤ 1000
    decide)) fun A v _ p => by
    obtain ⟨a, vs, rfl, ha, r⟩ := p
    obtain ⟨u, w, x, rfl, r1, r2, r3⟩ := ps_three r
    exact ⟨a, u, w, x, rfl, ha, r1, r2, r3⟩
theorem Own.nes {l : Addr} {o o' : HO} (O : Own A0 B0 A B l o) (h : B0 s = some o') : l ≠ s := fun e => by
  have := O.new
  rw [e, h] at this
  cases this
theorem mon_n {p : Nat → Prop} {f : Nat → V} : Mon (fun _ v => ∃ r : Nat, p r ∧ v = f r) := fun _ _ _ _ h => h
theorem mon_s {p : Str → Prop} {f : Str → V} : Mon (fun _ v => ∃ r : Str, p r ∧ v = f r) := fun _ _ _ _ h => h
end
section
variable {P : Program} {w : World} {K : PySem.W.Frag} {mg : Str → Option Value} {base : Heap} {CR CC : Addr}
theorem ok_l_maker (Bm : Bl mg) (T : Txt K CR CC) (O_l_next : OkF P w K mg base 1 "_law_next" ["_law_state_here", "_law_many"] (sp_l_next K CR CC)) (O_l_word : OkF P w K mg base 2 "_law_word" ["_law_letters_here", "_law_state_here", "_law_most"] (sp_l_word K CR CC)) (F : DefF K mg "_law_maker" s_l_maker ["_law_letters_here", "_law_state_here", "_law_most"]) : OkF P w K mg base 3 "_law_maker" ["_law_letters_here", "_law_state_here", "_law_most"] (sp_l_maker K CR CC) := by
  refine okF_of F sc_l_maker (fun vs H Q E h => ?_) (fun f cdv Ar outer s H vs Q E hr h => ?_)
  · obtain ⟨A, s, an, L, rfl, _⟩ := h
    rfl
  · obtain ⟨A0, s, an, L, rfl, hx, Z0, N, lok, kk⟩ := h
    have hu := hu_of hr
    refine ⟨_, (pss_cons (ps_set (i := 3) sc_l_maker.nd rfl (Or.inl rfl) (pe_op (plus_K K) pe_int (pe_F O_l_next (hr.mono (by decide)) rfl (pa_cons (pv 1) (pa_cons (pv 2) pa_nil)))))
      (pss_cons (ps_setLc (i := 5) (own := [("_law_k", 4)]) rfl sc_l_maker.nd rfl rfl (sw_true rfl rfl rfl (by decide +kernel)) (pi_range1 rfl Bm.m_range (pa_cons (pv 3) pa_nil)) (blkOk_by (N := N_l_maker) (sc := defScope s_l_maker) (by decide +kernel)) (fun _ _ _ _ _ => (pg_name (i := 4) sc_l_maker.nd rfl (by first | exact Or.inl rfl | exact Or.inr rfl))) (fun _ _ _ _ _ => pts_nil) (fun _ _ _ _ _ => (pe_ifExp (pt_cmpR (eq_K K hr) (pe_F O_l_next (hr.mono (by decide)) rfl (pa_cons (pv 1) (pa_cons pe_int pa_nil))) pe_int (nomark _)) pe_non (pe_F O_l_word (hr.mono (by decide)) rfl (pa_cons (pv 0) (pa_cons (pv 1) (pa_cons pe_int pa_nil)))))))
      (pss_cons (ps_set (i := 6) sc_l_maker.nd rfl (Or.inl rfl) (pe_lst pa_nil))
      (pss_cons (ps_for PassesOwn.never rfl (pi_range1 rfl Bm.m_range (pa_cons (pv 3) pa_nil)) (pg_name (i := 4) sc_l_maker.nd rfl (by first | exact Or.inl rfl | exact Or.inr rfl))
       (pss_cons (ps_set (i := 7) sc_l_maker.nd rfl (Or.inl rfl) (pe_lst pa_nil))
        (pss_cons (ps_for PassesOwn.never rfl (pi_str (pv 0)) (pg_name (i := 8) sc_l_maker.nd rfl (by first | exact Or.inl rfl | exact Or.inr rfl))
         (pss_cons (ps_set (i := 9) sc_l_maker.nd rfl (Or.inl rfl) (pe_tup (pa_cons (pe_F O_l_next (hr.mono (by decide)) rfl (pa_cons (pv 1) (pa_cons (pv 3) pa_nil))) (pa_cons (pe_F O_l_word (hr.mono (by decide)) rfl (pa_cons (pv 0) (pa_cons (pv 1) (pa_cons pe_int pa_nil)))) pa_nil))))
          (pss_one (ps_expr (bm_K K PySem.F.plainAttrs_list PySem.F.slot_list_append PySem.F.type_list_append mt_append (pv 7) (pa_cons (pe_ifExp (pt_cmpR (eq_K K hr) (pe_F O_l_next (hr.mono (by decide)) rfl (pa_cons (pv 1) (pa_cons pe_int pa_nil))) pe_int (nomark _)) pe_non (pv 9)) pa_nil))))))
        (pss_one (ps_expr (bm_K K PySem.F.plainAttrs_list PySem.F.slot_list_append PySem.F.type_list_append mt_append (pv 6) (pa_cons (pv 7) pa_nil)))))))
      (pss_one (ps_ret (pe_tup (pa_cons (pe_F O_l_word (hr.mono (by decide)) rfl (pa_cons (pv 0) (pa_cons (pv 1) (pa_cons pe_int pa_nil)))) (pa_cons (pv 5) (pa_cons (pv 6) pa_nil)))))))))), ?_⟩
    have S0 : Tot (fun a => a = s) A0 H A0 H := .refl hx
    have l1 := lok.pos
    have l2 := lok.two
    obtain ⟨pl0, hH⟩ := Z0.2
    refine z_asg (P := fun _ v => ∃ n : Nat, (1 ≤ n ∧ n ≤ 3) ∧ v = .int (n : Nat)) S0 Z0 (evs_op (r := rPlus K) (P1 := isV (.int 1)) (evs ev_cv) (evs_next (CR := CR) (CC := CC) (m := 3) N rfl (by walk_at "ev") (by decide) (by decide)) mon_v fun A u v e p1 p2 => ?_) fun v A1 B1 s1 S1 Z1 p1 => ?_
    · obtain ⟨r, hr, rfl⟩ := p2
      subst p1
      exact EvP.imp (P := isD K (.int (1 + (r : Nat)))) (ev_addI (ev_var rfl (.int _)) (ev_var rfl (.int _))) fun A v _ p => ⟨1 + r, ⟨by omega, by omega⟩, by rw [dp_int p, show ((1 + r : Nat) : Int) = 1 + (r : Nat) by omega]⟩
    obtain ⟨n, ⟨hn1, hn3⟩, rfl⟩ := p1
    have N1 := N.mono s1.kn
    walk_at "nx"
    refine z_asg S1 Z1 (evs_lc (K := K) (Pe := fun A v => ∃ o : Option Str, (∀ x, o = some x → Wo L x) ∧ Dp K A v (eS o)) (List.range n) (fun i => .int (i : Nat)) (src_range1 (by walk_at "ev") (by omega)) (by rw [List.length_range]; omega) (fun _ _ _ e ⟨o, h1, h2⟩ => ⟨o, h1, dp_mono e h2⟩) fun a ha x A B e f p => ⟨_, g_name, rfl, ?_⟩) fun v5 A2 B2 s2 S2 Z2 p2 => ?_
    · refine evs_if (est_eq0 (evs_next (CR := CR) (CC := CC) (m := 4) (N1.mono e) rfl (by walk_at "ev") (by decide) (by decide))) (fun _ => ?_) (fun _ => ?_)
      · exact evs (EvP.imp (P := isV .non) ev_cv fun A v _ p => ⟨none, (fun x h => nomatch h), p ▸ .non⟩)
      · exact EvS.imp (evs_word (CR := CR) (CC := CC) (N1.mono e) lok rfl rfl) fun A v _ ⟨x, h1, h2⟩ => ⟨some x, (fun y h => by cases h; exact h1), h2 ▸ .str _⟩
    obtain ⟨l5, us5, rfl, h5, hl5, hp5⟩ := p2
    obtain ⟨fin, hf1, hf2, hf3⟩ := pick_list hp5
    rw [hl5, List.length_range] at hf1
    have d5 : Dp K A2 (.ref l5) (.list (fin.map eS)) := .lst (SqL.of h5) hf3
    have N2 := N1.mono s2.kn
    walk_at "nx"
    refine st_new0 S2 fun l6 S3 O3 hn3' => ?_
    have hls6 := O3.nes hH
    have Z3 := Z2.putO (o := .lst []) hls6
    walk_at "nx"
    refine st_for (K := K) (xs := List.range n) (enc := fun i => .int (i : Nat)) (src_range1 (by walk_at "ev") (by omega)) S3.le fun A4 B4 s4 => ⟨fun i σ A B => ∃ (rows : List (List Way)) (vs : List V) (z4 z7 z8 z9 : Option V), σ = [some (.str L), some (.ref s), some (.int 3), some (.int (n : Nat)), z4, some (.ref l5), some (.ref l6), z7, z8, z9] ∧ Tot (fun a => a = s) A0 H A B ∧ SS s an A B ∧ Own A0 H A B l6 (.lst vs) ∧ rows.length = i ∧ DpAll K A vs (rows.map eRL) ∧ (∀ r ∈ rows, r.length = L.length ∧ ∀ t x, some (t, x) ∈ r → t < n ∧ Wo L x), ⟨[], [], _, _, _, _, rfl, S3.go s4, Z3.go s4, O3.go s4, rfl, .nil, fun _ h => nomatch h⟩, ?_, ?_⟩
    · rintro i k x σ' A B A5 B5 hi hA hB ⟨rows, vs, z4, z7, z8, z9, rfl, S4, Z4, O4, hrl, hrd, hrw⟩ s5 px
      have S5 := S4.go s5
      have Z5 := Z4.go s5
      have O5 := O4.go s5
      have hin : i < n := by
        have := (List.getElem?_eq_some_iff.mp hi).1
        rw [List.length_range] at this
        exact this
      have N5 := (N2.mono s4.kn).mono (hA.trans s5.kn)
      dsimp only [gName]
      refine st_new0 S5 fun l7 S6 O7 hn7 => ?_
      have hls7 := O7.nes hH
      have hne : l6 ≠ l7 := O5.ne hn7
      have O6 := O5.other (o' := .lst []) hne
      have Z6 := Z5.putO (o := .lst []) hls7
      walk_at "nx"
      refine st_for (K := K) (xs := tl L) (enc := fun c => .str ⟨#[c]⟩) (src_str (by walk_at "ev")) S6.le fun A7 B7 s7 => ⟨fun j σ A B => ∃ (ws : List Way) (us : List V) (z8 z9 : Option V), σ = [some (.str L), some (.ref s), some (.int 3), some (.int (n : Nat)), some x, some (.ref l5), some (.ref l6), some (.ref l7), z8, z9] ∧ Tot (fun a => a = s) A0 H A B ∧ SS s an A B ∧ Own A0 H A B l6 (.lst vs) ∧ Own A0 H A B l7 (.lst us) ∧ ws.length = j ∧ DpAll K A us (ws.map eW) ∧ (∀ t x, some (t, x) ∈ ws → t < n ∧ Wo L x), ⟨[], [], _, _, rfl, S6.go s7, Z6.go s7, O6.go s7, O7.go s7, rfl, .nil, fun _ _ h => nomatch h⟩, ?_, ?_⟩
      · rintro j ch y σ' A' B' A8 B8 hj hA' hB' ⟨ws, us, z8, z9, rfl, S7, Z7, O6, O7, hwl, hwd, hww⟩ s8 py
        have S8 := S7.go s8
        have Z8 := Z7.go s8
        have O6 := O6.go s8
        have O7 := O7.go s8
        have hjl : j < L.length := by
          have := (List.getElem?_eq_some_iff.mp hj).1
          rw [tl_len] at this
          exact this
        have N8 := (N5.mono s7.kn).mono (hA'.trans s8.kn)
        dsimp only [gName]
        refine z_asg S8 Z8 (evs_tup2 (evs_next (CR := CR) (CC := CC) (m := n) N8 rfl (by walk_at "ev") (by omega) (by omega)) (evs_word (CR := CR) (CC := CC) N8 lok rfl rfl) mon_n mon_s) fun v9 A9 B9 s9 S9 Z9 p9 => ?_
        obtain ⟨a9, u9, w9, rfl, h9, ⟨t, ht, rfl⟩, ⟨wd, hwd9, rfl⟩⟩ := p9
        have O6 := O6.goM s9 hls6
        have O7 := O7.goM s9 hls7
        have d9 : Dp K A9 (.ref a9) (.tuple [.int (t : Nat), .str wd]) := .tup (SqT.of h9) (.cons (.int _) (.cons (.str _) .nil))
        walk_at "nx"
        refine z_app (K := K) (P := fun A v => ∃ w : Way, (∀ t x, w = some (t, x) → t < n ∧ Wo L x) ∧ Dp K A v (eW w)) (ev_ref rfl) (evs_if (est_eq0 (evs_next (CR := CR) (CC := CC) (m := 6) (N8.mono s9.kn) rfl (by walk_at "ev") (by decide) (by decide))) (fun _ => ?_) (fun _ => ?_)) S9 Z9 O7 hls7 (by rw [da_len hwd, List.length_map]; omega) fun v A10 B10 s10 p10 S10 Z10 O10 => ?_
        · exact evs (EvP.imp (P := isV .non) ev_cv fun A v _ p => ⟨none, (fun t x h => nomatch h), p ▸ .non⟩)
        · exact evs (ev_varP rfl fun A e => ⟨some (t, wd), (fun t x h => by cases h; exact ⟨ht, hwd9⟩), dp_mono e d9⟩)
        · obtain ⟨wy, hwy, dwy⟩ := p10
          refine ⟨A10, ((hA'.trans s8.kn).trans s9.kn).trans s10.kn, S10.le, ws ++ [wy], us ++ [v], _, _, rfl, S10, Z10, (O6.goM s10 hls6).other hne, O10, by rw [List.length_append, hwl]; rfl, ?_, ?_⟩
          · rw [List.map_append]
            exact da_app (da_mono ((s8.kn.trans s9.kn).trans s10.kn) hwd) (.cons dwy .nil)
          · intro t x h
            rcases List.mem_append.mp h with h | h
            · exact hww t x h
            · rw [List.mem_singleton] at h
              exact hwy t x h.symm
      · rintro σ' A' B' hA' hB' ⟨ws, us, z8, z9, rfl, S7, Z7, O6, O7, hwl, hwd, hww⟩
        rw [tl_len] at hwl
        obtain ⟨Sf, ef⟩ := S7.frz O7
        have Zf := Z7.frz (o := .lst us) hls7
        have O6f := O6.frzO (o' := .lst us) hne
        have drow : Dp K (upd A' l7 (.lst us)) (.ref l7) (eRL ws) := .lst (SqL.of upd_same) (da_mono ef hwd)
        walk_at "nx"
        refine st_app (K := K) (P := isD K (eRL ws)) (ev_ref rfl) (ev_var rfl drow) Sf O6f (by rw [da_len hrd, List.length_map]; omega) fun v A8 B8 s8 p8 S8 O8 => ?_
        refine ⟨A8, (((hA.trans s5.kn).trans s7.kn).trans (hA'.trans ef)).trans s8.kn, S8.le, rows ++ [ws], vs ++ [v], _, _, _, _, rfl, S8, (Zf.go s8).putO hls6, O8, by rw [List.length_append, hrl]; rfl, ?_, ?_⟩
        · rw [List.map_append]
          exact da_app (da_mono (((s5.kn.trans s7.kn).trans (hA'.trans ef)).trans s8.kn) hrd) (.cons p8 .nil)
        · intro r hr
          rcases List.mem_append.mp hr with h | h
          · exact hrw r h
          · rw [List.mem_singleton] at h
            subst h
            exact ⟨hwl, hww⟩
    · rintro σ' A B hA hB ⟨rows, vs, z4, z7, z8, z9, rfl, S4, Z4, O4, hrl, hrd, hrw⟩
      rw [List.length_range] at hrl
      obtain ⟨Sf, ef⟩ := S4.frz O4
      have Zf := Z4.frz (o := .lst vs) hls6
      have hE : Ex A2 (upd A l6 (.lst vs)) := (s4.kn.trans hA).trans ef
      have dt : Dp K (upd A l6 (.lst vs)) (.ref l6) (.list (rows.map eRL)) := .lst (SqL.of upd_same) (da_mono ef hrd)
      walk_at "nx"
      refine z_ret Sf Zf kk (EvS.imp (evs_tup3 (P2 := isD K (.list (fin.map eS))) (P3 := isD K (.list (rows.map eRL))) (evs_word (CR := CR) (CC := CC) (N2.mono hE) lok rfl rfl) (evs (ev_var rfl (dp_mono hE d5))) (evs (ev_var rfl dt)) mon_s mon_d mon_d) fun A v _ p => ?_)
      obtain ⟨a, u, w, x, rfl, ha, ⟨ld, hld, rfl⟩, r2, r3⟩ := p
      exact ⟨⟨ld, fin, rows⟩, ⟨by show 1 ≤ fin.length; omega, by show fin.length ≤ 3; omega, by show rows.length = fin.length; omega, fun r hr => (hrw r hr).1, fun r hr t x h => by show t < fin.length ∧ _; rw [hf1]; exact (hrw r hr).2 t x h, fun x h => hf2 _ h x rfl, hld⟩, .tup (SqT.of ha) (.cons (.str _) (.cons r2 (.cons r3 .nil)))⟩
end
-- W22
/-! ### what a text is rewritten to; the judge tells no lie -/
def runR (P : Rw) : List Nat → Int → Str → Option Str
  | [], s, w => (finAt P s).map (w ++ ·)
  | j :: js, s, w => match wayAt P s j with
    | none => none
    | some (t, x) => runR P js (t : Nat) (w ++ x)
theorem gone_none {P : Rw} {S : List Int} (h : goneOK P S = true) : ∀ (js : List Nat) (s : Int) (w : Str), s ∈ S → runR P js s w = none
  | js, s, w, hs => by
    unfold goneOK at h
    rw [List.all_eq_true] at h
    have hh := h s hs
    unfold goneOne at hh
    simp only [Bool.and_eq_true, decide_eq_true_eq] at hh
    obtain ⟨⟨⟨h0, h1⟩, h2⟩, h3⟩ := hh
    have hf : finAt P s = none := by
      unfold finAt
      cases e : P.fin[s.toNat]? with
      | none => rfl
      | some o =>
        rw [e] at h2
        cases o with
        | none => rfl
        | some x => cases h2
    cases js with
    | nil => show (finAt P s).map _ = none; rw [hf]; rfl
    | cons j js =>
      show (match wayAt P s j with | none => none | some (t, x) => runR P js (t : Nat) (w ++ x)) = none
      cases hw : wayAt P s j with
      | none => rfl
      | some tx =>
        obtain ⟨t, x⟩ := tx
        have hm : some (t, x) ∈ (P.tab[s.toNat]?).getD [] := by
          unfold wayAt at hw
          cases e : ((P.tab[s.toNat]?).getD [])[j]? with
          | none => rw [e] at hw; cases hw
          | some o =>
            rw [e] at hw
            have hw : o = some (t, x) := hw
            subst hw
            exact List.mem_of_getElem? e
        rw [List.all_eq_true] at h3
        have h4 := of_decide_eq_true (h3 _ hm)
        exact gone_none (by unfold goneOK; rw [List.all_eq_true]; exact h) js _ _ h4
theorem ow_split (c x y : Str) : ∃ d, c ++ x = d ++ (ow x y).1 ∧ c ++ y = d ++ (ow x y).2 := by
  refine ⟨c ++ takeS x (cpl (tl x) (tl y)), tl_ext ?_, tl_ext ?_⟩
  · rw [tl_app, tl_app, tl_app, tl_takeS]
    show _ = tl c ++ (tl x).take _ ++ tl (dropS x _)
    rw [tl_dropS, List.append_assoc, List.take_append_drop]
  · rw [tl_app, tl_app, tl_app, tl_takeS]
    show _ = tl c ++ (tl x).take _ ++ tl (dropS y _)
    rw [tl_dropS, cpl_take, List.append_assoc, List.take_append_drop]
theorem rows_run {F S : Rw} {n : Nat} {p : Pap} (hF : goneOK F p.gone = true) (hS : goneOK S p.far = true) (hr : p.rows.all (rowOK F S n p) = true) : ∀ (js : List Nat) (r : PRow) (c : Str), (∀ j ∈ js, j < n) → r ∈ p.rows → runR F js r.1 (c ++ r.2.2.1) = runR S js r.2.1 (c ++ r.2.2.2)
  | js, (k, u, a, b), c, hj, hm => by
    have h := (List.all_eq_true.mp hr) _ hm
    unfold rowOK at h
    simp only [Bool.and_eq_true] at h
    obtain ⟨⟨_, he⟩, hl⟩ := h
    cases js with
    | nil =>
      show (finAt F k).map (c ++ a ++ ·) = (finAt S u).map (c ++ b ++ ·)
      cases hf : finAt F k with
      | none =>
        cases hg : finAt S u with
        | none => rfl
        | some g => rw [hf, hg] at he; cases he
      | some f =>
        cases hg : finAt S u with
        | none => rw [hf, hg] at he; cases he
        | some g =>
          rw [hf, hg] at he
          have he := of_decide_eq_true he
          show some (c ++ a ++ f) = some (c ++ b ++ g)
          rw [app_assoc, app_assoc, he]
    | cons j js =>
      rw [List.all_eq_true] at hl
      have h1 := hl j (List.mem_range.mpr (hj j List.mem_cons_self))
      unfold letterOK at h1
      rw [Bool.and_eq_true, beq_iff_eq] at h1
      obtain ⟨h1, h2⟩ := h1
      show (match wayAt F k j with | none => none | some (t, x) => runR F js (t : Nat) (c ++ a ++ x)) = (match wayAt S u j with | none => none | some (t, x) => runR S js (t : Nat) (c ++ b ++ x))
      by_cases hs : stops (wayAt F k j) p.gone = true
      · have e1 : (match wayAt F k j with | none => none | some (t, x) => runR F js (t : Nat) (c ++ a ++ x)) = none := by
          cases hw : wayAt F k j with
          | none => rfl
          | some tx =>
            obtain ⟨t, x⟩ := tx
            rw [hw] at hs
            exact gone_none hF js _ _ (of_decide_eq_true hs)
        have e2 : (match wayAt S u j with | none => none | some (t, x) => runR S js (t : Nat) (c ++ b ++ x)) = none := by
          rw [h1] at hs
          cases hw : wayAt S u j with
          | none => rfl
          | some tx =>
            obtain ⟨t, x⟩ := tx
            rw [hw] at hs
            exact gone_none hS js _ _ (of_decide_eq_true hs)
        rw [e1, e2]
      · have hs1 : stops (wayAt F k j) p.gone = false := by simpa using hs
        rw [hs1] at h1 h2
        rw [Bool.false_or] at h2
        have h2 := of_decide_eq_true h2
        cases hw : wayAt F k j with
        | none => rw [hw] at hs1; cases hs1
        | some tx =>
          cases hv : wayAt S u j with
          | none => rw [hv] at h1; cases h1
          | some uy =>
            obtain ⟨t, x⟩ := tx
            obtain ⟨v, y⟩ := uy
            rw [hw, hv] at h2
            obtain ⟨d, d1, d2⟩ := ow_split c (a ++ x) (b ++ y)
            show runR F js (t : Nat) (c ++ a ++ x) = runR S js (v : Nat) (c ++ b ++ y)
            rw [app_assoc, app_assoc, d1, d2]
            exact rows_run hF hS hr js _ d (fun j hj2 => hj j (List.mem_cons_of_mem _ hj2)) h2
theorem taken_sound {F S : Rw} {n : Nat} {p : Pap} (h : taken F S n p = true) (js : List Nat) (hj : ∀ j ∈ js, j < n) : runR F js 0 F.lead = runR S js 0 S.lead := by
  unfold taken at h
  rw [Bool.and_eq_true, Bool.and_eq_true] at h
  obtain ⟨⟨hF, hS⟩, h⟩ := h
  by_cases hb : (decide ((0 : Int) ∈ p.gone) || decide ((0 : Int) ∈ p.far)) = true
  · rw [if_pos hb, Bool.and_eq_true] at h
    rw [gone_none hF js 0 _ (of_decide_eq_true h.1), gone_none hS js 0 _ (of_decide_eq_true h.2)]
  · rw [if_neg hb, Bool.and_eq_true] at h
    obtain ⟨h1, h2⟩ := h
    have h1 := of_decide_eq_true h1
    obtain ⟨d, d1, d2⟩ := ow_split "" F.lead S.lead
    rw [nil_app] at d1 d2
    have q := rows_run hF hS h2 js _ d hj h1
    dsimp only at q
    rw [← d1, ← d2] at q
    exact q
/-- the places of a text's signs -/
def pos (L : Str) (cs : List Nat) : List Nat := cs.map fun c => (tl L).idxOf c
def rwS (P : Rw) (L x : Str) : Option Str := runR P (pos L (tl x)) 0 P.lead
theorem pos_lt {L : Str} {cs : List Nat} (h : ∀ c ∈ cs, c ∈ tl L) : ∀ j ∈ pos L cs, j < L.length := by
  intro j hj
  unfold pos at hj
  rw [List.mem_map] at hj
  obtain ⟨c, hc, rfl⟩ := hj
  rw [← tl_len]
  exact List.idxOf_lt_length_iff.mpr (h c hc)
theorem taken_rw {F S : Rw} {L : Str} {p : Pap} (h : taken F S L.length p = true) {x : Str} (hx : ∀ c ∈ tl x, c ∈ tl L) : rwS F L x = rwS S L x := taken_sound h _ (pos_lt hx)
theorem idx_at {L : Str} {c : Nat} (h : c ∈ tl L) : (tl L)[(tl L).idxOf c]? = some c := by
  have h1 := List.idxOf_lt_length_iff.mpr h
  rw [List.getElem?_eq_getElem h1, List.getElem_idxOf h1]
-- W23
theorem st_forL {K : PySem.W.Frag} {σ : L2.St} {D : Ends} {α : Type} {q : List α → Prop} {enc : α → PyData} {A0 B0 : Hp} {te : TE} {g : TG} {tb : TS} (h : EvP te σ A0 fun A v => ∃ xs : List α, q xs ∧ Dp K A v (.list (xs.map enc))) (hx : Ex A0 B0)
    (k : ∀ v A' B' xs, Stp A0 B0 A' B' → q xs → Dp K A' v (.list (xs.map enc)) → tFor (iList K (tC v)) g tb D σ B') : tFor (iList K te) g tb D σ B0 :=
  h A0 B0 (Ex.refl _) hx _ fun v A' B' s ⟨xs, hq, hd⟩ => k v A' B' xs s hq hd
theorem ev_cd {K : PySem.W.Frag} {σ : L2.St} {A : Hp} {v : V} {d : PyData} (h : Dp K A v d) : EvD K (tC v) σ A d := fun A1 B1 a b Q q => q v A1 B1 (.refl b) (dp_mono a h)
theorem eS_eq {a b : Option Str} : sEq (eS a) (eS b) = some (decide (a = b)) := by
  cases a <;> cases b <;> simp [eS, sEq]
def TxW (L x : Str) : Prop := x.length ≤ 12 ∧ ∀ c ∈ tl x, c ∈ tl L
def sp_l_texts (K : PySem.W.Frag) (CR CC : Addr) : Sp := fun vs H Q _ => ∃ (A : Hp) (L : Str) (m : Nat), vs = [.str L, .int (m : Nat)] ∧ Ex A H ∧ LOk L ∧ m ≤ 12 ∧ m * L.length ^ m ≤ 3000 ∧ RetP A H Q fun A v => ∃ xs : List Str, (∀ x ∈ xs, TxW L x) ∧ xs.length ≤ 3001 ∧ Dp K A v (.list (xs.map .str))
def sp_l_rewrite (K : PySem.W.Frag) (CR CC : Addr) : Sp := fun vs H Q _ => ∃ (A : Hp) (L x : Str) (P : Rw) (v : V), vs = [.str L, v, .str x] ∧ Ex A H ∧ LOk L ∧ Wf L P ∧ Dp K A v (eParts P) ∧ TxW L x ∧ Ret K A H Q (eS (rwS P L x))
def sp_l_do_the_same (K : PySem.W.Frag) (CR CC : Addr) : Sp := fun vs H Q _ => ∃ (A : Hp) (L : Str) (F S : Rw) (u v : V), vs = [.str L, u, v] ∧ Ex A H ∧ LOk L ∧ Wf L F ∧ Wf L S ∧ Dp K A u (eParts F) ∧ Dp K A v (eParts S) ∧
  RetP A H Q fun _ v => ∃ b : Bool, v = .bl b ∧ ((∀ x : Str, (∀ c ∈ tl x, c ∈ tl L) → rwS F L x = rwS S L x) → b = true)
section
variable {P : Program} {w : World} {K : PySem.W.Frag} {mg : Str → Option Value} {base : Heap} {CR CC : Addr}
theorem ok_l_texts (Bm : Bl mg) (T : Txt K CR CC)  (F : DefF K mg "_law_texts" s_l_texts ["_law_letters_here", "_law_most"]) : OkF P w K mg base 1 "_law_texts" ["_law_letters_here", "_law_most"] (sp_l_texts K CR CC) := by
  refine okF_of F sc_l_texts (fun vs H Q E h => ?_) (fun f cdv Ar outer s H vs Q E hr h => ?_)
  · obtain ⟨A, L, m, rfl, _⟩ := h
    rfl
  · obtain ⟨A0, L, m, rfl, hx, lok, hm, hpow, kk⟩ := h
    have hu := hu_of hr
    refine ⟨_, (pss_cons (ps_set (i := 2) sc_l_texts.nd rfl (Or.inl rfl) (pe_lst (pa_cons pe_str pa_nil)))
      (pss_cons (ps_set (i := 3) sc_l_texts.nd rfl (Or.inl rfl) (pe_lst (pa_cons pe_str pa_nil)))
      (pss_cons (ps_for PassesOwn.never rfl (pi_range1 rfl Bm.m_range (pa_cons (pv 1) pa_nil)) (pg_name (i := 4) sc_l_texts.nd rfl (by first | exact Or.inl rfl | exact Or.inr rfl))
       (pss_cons (ps_set (i := 5) sc_l_texts.nd rfl (Or.inl rfl) (pe_lst pa_nil))
        (pss_cons (ps_for PassesOwn.never rfl (list_K K (pv 2)) (pg_name (i := 6) sc_l_texts.nd rfl (by first | exact Or.inl rfl | exact Or.inr rfl))
         (pss_one (ps_set (i := 5) sc_l_texts.nd rfl (Or.inl rfl) (pe_op (plus_K K) (pv 5) (pe_lc (own := [("_law_letter", 7)]) rfl sc_l_texts.nd (pi_str (pv 0)) (blkOk_by (N := N_l_texts) (sc := defScope s_l_texts) (by decide +kernel)) (fun _ _ _ _ _ => (pg_name (i := 7) sc_l_texts.nd rfl (by first | exact Or.inl rfl | exact Or.inr rfl))) (fun _ _ _ _ _ => pts_nil) (fun _ _ _ _ _ => (pe_op (plus_K K) (pv 6) (pv 7))))))))
        (pss_cons (ps_set (i := 2) sc_l_texts.nd rfl (Or.inl rfl) (pv 5))
        (pss_one (ps_set (i := 3) sc_l_texts.nd rfl (Or.inl rfl) (pe_op (plus_K K) (pv 3) (pv 2))))))))
      (pss_one (ps_ret (pv 3)))))), ?_⟩
    have S0 : Tot (fun _ => False) A0 H A0 H := .refl hx
    have l1 := lok.pos
    have l2 := lok.two
    refine s_asgP S0 (evl_lst (K := K) (ds := [.str ""]) (by walk_at "ea") (Nat.le_of_ble_eq_true rfl)) fun v2 A1 B1 s1 S1 p1 => ?_
    walk_at "nx"
    refine s_asgP S1 (evl_lst (K := K) (ds := [.str ""]) (by walk_at "ea") (Nat.le_of_ble_eq_true rfl)) fun v3 A2 B2 s2 S2 p2 => ?_
    have p1 := p1.mono s2.kn
    have t0 : ∀ x ∈ [("" : Str)], TxW L x := fun x h => by
      rw [List.mem_singleton] at h
      subst h
      exact ⟨by decide, fun c h => nomatch h⟩
    walk_at "nx"
    refine st_for (K := K) (xs := List.range m) (enc := fun i => .int (i : Nat)) (src_range1 (by walk_at "ev") (by omega)) S2.le fun A3 B3 s3 => ⟨fun i σ A B => ∃ (xs ys : List Str) (v2 v3 : V) (z4 z5 z6 z7 : Option V), σ = [some (.str L), some (.int (m : Nat)), some v2, some v3, z4, z5, z6, z7] ∧ z7 = none ∧ Tot (fun _ => False) A0 H A B ∧ HL K (xs.map .str) A v2 ∧ HL K (ys.map .str) A v3 ∧ xs.length = L.length ^ i ∧ (∀ x ∈ xs, x.length = i ∧ ∀ c ∈ tl x, c ∈ tl L) ∧ (∀ y ∈ ys, TxW L y) ∧ ys.length ≤ 1 + i * L.length ^ m, ⟨[""], [""], _, _, _, _, _, _, rfl, rfl, S2.go s3, p1.mono s3.kn, p2.mono s3.kn, rfl, fun x h => by rw [List.mem_singleton] at h; subst h; exact ⟨rfl, fun c h => nomatch h⟩, t0, by simp⟩, ?_, ?_⟩
    · rintro i k x σ' A B A4 B4 hi hA hB ⟨xs, ys, v2, v3, z4, z5, z6, z7, rfl, rfl, S3, h2, h3, hxl, hxs, hys, hyl⟩ s4 px
      have S4 := S3.go s4
      have h2 := h2.mono s4.kn
      have h3 := h3.mono s4.kn
      have him : i < m := by
        have := (List.getElem?_eq_some_iff.mp hi).1
        rw [List.length_range] at this
        exact this
      have hp1 : L.length ^ i ≤ L.length ^ m := Nat.pow_le_pow_right l1 (by omega)
      have hp2 : L.length ^ (i + 1) ≤ L.length ^ m := Nat.pow_le_pow_right l1 (by omega)
      have hp3 : L.length ^ m ≤ 3000 := Nat.le_trans (Nat.le_mul_of_pos_left _ (by omega)) hpow
      dsimp only [gName]
      refine s_asgP S4 (evl_lst (K := K) ead_nil (Nat.zero_le _)) fun v5 A5 B5 s5 S5 p5 => ?_
      have h2 := h2.mono s5.kn
      have h3 := h3.mono s5.kn
      walk_at "nx"
      refine st_for (K := K) (xs := xs) (enc := .str) (src_list (ev_var rfl h2.dp)) S5.le fun A6 B6 s6 => ⟨fun j σ A B => ∃ (ls : List Str) (v5 : V) (z6 : Option V), σ = [some (.str L), some (.int (m : Nat)), some v2, some v3, some x, some v5, z6, none] ∧ Tot (fun _ => False) A0 H A B ∧ HL K (ls.map .str) A v5 ∧ ls.length = j * L.length ∧ (∀ y ∈ ls, y.length = i + 1 ∧ ∀ c ∈ tl y, c ∈ tl L), ⟨[], _, _, rfl, S5.go s6, p5.mono s6.kn, by simp, fun _ h => nomatch h⟩, ?_, ?_⟩
      · rintro j t y σ' A' B' A7 B7 hj hA' hB' ⟨ls, v5, z6, rfl, S6, h5, hll, hls⟩ s7 py
        have S7 := S6.go s7
        have h5 := h5.mono s7.kn
        have ey := dp_str py
        subst ey
        have ht := hxs t (List.mem_of_getElem? hj)
        have hjx : j < xs.length := (List.getElem?_eq_some_iff.mp hj).1
        have hjl : (j + 1) * L.length ≤ L.length ^ m := by
          have h1 : (j + 1) * L.length ≤ L.length ^ i * L.length := Nat.mul_le_mul_right _ (by omega)
          rw [← Nat.pow_succ] at h1
          exact Nat.le_trans h1 hp2
        have hjl' : j * L.length ≤ L.length ^ m := Nat.le_trans (Nat.mul_le_mul_right _ (Nat.le_succ j)) hjl
        dsimp only [gName]
        have hcomp := evl_lc (K := K) (σ := [some (.str L), some (.int (m : Nat)), some v2, some v3, some x, some v5, some (.str t), none]) (A0 := A7) (wi := iStr (tVar 0)) (g := gName 7) (tt := tYes) (te := tOp (rPlus K) (tVar 6) (tVar 7)) (vs := [7]) (tl L) (fun c => .str ⟨#[c]⟩) (fun _ => true) (fun c => .str (t ++ ⟨#[c]⟩)) (src_str (by walk_at "ev")) (by rw [tl_len]; omega) fun c hc z A8 B8 e8 f8 p8 => ⟨_, g_name, rfl, (fun A B a c Q q => q A B (.refl c)), fun _ => ev_addS (by walk_at "ev") (by walk_at "ev") (by have : (⟨#[c]⟩ : Str).length = 1 := rfl; omega)⟩
        rw [List.filter_eq_self.mpr fun _ _ => rfl] at hcomp
        refine s_asgP S7 (evl_add (K := K) (xs := ls.map .str) (ev_varP rfl fun A e => h5.mono e) hcomp (by rw [List.length_map, List.length_map, tl_len]; omega)) fun v8 A8 B8 s8 S8 p8 => ?_
        refine ⟨A8, (hA'.trans s7.kn).trans s8.kn, S8.le, ls ++ (tl L).map fun c => t ++ ⟨#[c]⟩, v8, _, rfl, S8, ?_, ?_, ?_⟩
        · rw [List.map_append, List.map_map]
          exact p8
        · rw [List.length_append, List.length_map, tl_len, hll, Nat.add_mul, Nat.one_mul]
        · intro y hy
          rcases List.mem_append.mp hy with h | h
          · exact hls y h
          · rw [List.mem_map] at h
            obtain ⟨c, hc, rfl⟩ := h
            refine ⟨by rw [len_app, ht.1]; rfl, fun d hd => ?_⟩
            rw [tl_app] at hd
            rcases List.mem_append.mp hd with h | h
            · exact ht.2 d h
            · have e2 : tl (⟨#[c]⟩ : Str) = [c] := rfl
              rw [e2, List.mem_singleton] at h
              subst h
              exact hc
      · rintro σ' A' B' hA' hB' ⟨ls, v5, z6, rfl, S6, h5, hll, hls⟩
        have hll : ls.length = L.length ^ (i + 1) := by rw [hll, hxl]; rfl
        walk_at "nx"
        refine s_asgP S6 (P := HL K (ls.map .str)) (ev_varP rfl fun A e => h5.mono e) fun v8 A8 B8 s8 S8 p8 => ?_
        have hE : Ex A5 A8 := (s6.kn.trans hA').trans s8.kn
        walk_at "nx"
        refine s_asgP S8 (evl_add (K := K) (xs := ys.map .str) (ys := ls.map .str) (ev_varP rfl fun A e => h3.mono (hE.trans e)) (ev_varP rfl fun A e => p8.mono e) (by
          rw [List.length_map, List.length_map]
          have h1 : i * L.length ^ m ≤ 12 * 3000 := Nat.mul_le_mul (by omega) hp3
          omega)) fun v9 A9 B9 s9 S9 p9 => ?_
        refine ⟨A9, ((hA.trans s4.kn).trans s5.kn).trans (hE.trans s9.kn), S9.le, ls, ys ++ ls, _, _, _, _, _, none, rfl, rfl, S9, p8.mono s9.kn, by rw [List.map_append]; exact p9, hll, hls, ?_, ?_⟩
        · intro y hy
          rcases List.mem_append.mp hy with h | h
          · exact hys y h
          · exact ⟨by have := (hls y h).1; omega, (hls y h).2⟩
        · rw [List.length_append, hll, Nat.add_mul, Nat.one_mul]
          omega
    · rintro σ' A B hA hB ⟨xs, ys, v2, v3, z4, z5, z6, z7, rfl, rfl, S3, h2, h3, hxl, hxs, hys, hyl⟩
      rw [List.length_range] at hyl
      walk_at "nx"
      exact s_retP S3 kk (ev_varP rfl fun A e => ⟨ys, hys, by omega, (h3.mono e).dp⟩)
theorem ok_l_rewrite (Bm : Bl mg) (T : Txt K CR CC)  (F : DefF K mg "_law_rewrite" s_l_rewrite ["_law_letters_here", "_law_parts", "_law_text"]) : OkF P w K mg base 1 "_law_rewrite" ["_law_letters_here", "_law_parts", "_law_text"] (sp_l_rewrite K CR CC) := by
  refine okF_of F sc_l_rewrite (fun vs H Q E h => ?_) (fun f cdv Ar outer s H vs Q E hr h => ?_)
  · obtain ⟨A, L, x, P, v, rfl, _⟩ := h
    rfl
  · obtain ⟨A0, L, x, P, v, rfl, hx, lok, wf, hv0, hxw, kk⟩ := h
    have hu := hu_of hr
    refine ⟨_, (pss_cons (ps_set (i := 3) sc_l_rewrite.nd rfl (Or.inl rfl) pe_int)
      (pss_cons (ps_set (i := 4) sc_l_rewrite.nd rfl (Or.inl rfl) (pe_ix (ix_K K) (pv 1) pe_int (fun _ _ => rfl)))
      (pss_cons (ps_for PassesOwn.never rfl (pi_str (pv 2)) (pg_name (i := 5) sc_l_rewrite.nd rfl (by first | exact Or.inl rfl | exact Or.inr rfl))
       (pss_cons (ps_set (i := 6) sc_l_rewrite.nd rfl (Or.inl rfl) (pe_ix (ix_K K) (pe_ix (ix_K K) (pe_ix (ix_K K) (pv 1) pe_int (fun _ _ => rfl)) (pv 3) (fun _ _ => rfl)) (bm_K K PySem.F.plainAttrs_str PySem.F.slot_str_index PySem.F.type_str_index sindex_R (pv 0) (pa_cons (pv 5) pa_nil)) (fun _ _ => rfl)))
        (pss_cons (ps_if (pt_cmpR isN_R (pv 6) pe_non (nomark _)) (pss_one (ps_ret pe_non)) pss_nil)
        (pss_cons (ps_set (i := 3) sc_l_rewrite.nd rfl (Or.inl rfl) (pe_ix (ix_K K) (pv 6) pe_int (fun _ _ => rfl)))
        (pss_one (ps_set (i := 4) sc_l_rewrite.nd rfl (Or.inl rfl) (pe_op (plus_K K) (pv 4) (pe_ix (ix_K K) (pv 6) pe_int (fun _ _ => rfl)))))))))
      (pss_cons (ps_if (pt_cmpR isN_R (pe_ix (ix_K K) (pe_ix (ix_K K) (pv 1) pe_int (fun _ _ => rfl)) (pv 3) (fun _ _ => rfl)) pe_non (nomark _)) (pss_one (ps_ret pe_non)) pss_nil)
      (pss_one (ps_ret (pe_op (plus_K K) (pv 4) (pe_ix (ix_K K) (pe_ix (ix_K K) (pv 1) pe_int (fun _ _ => rfl)) (pv 3) (fun _ _ => rfl))))))))), ?_⟩
    have S0 : Tot (fun _ => False) A0 H A0 H := .refl hx
    have l2 := lok.two
    have hv : Dp K A0 v (.tuple [.str P.lead, .list (P.fin.map eS), .list (P.tab.map eRL)]) := hv0
    have hlead := wf.lead.len
    have hxl := hxw.1
    refine s_asg (K := K) (d := .int 0) S0 (by walk_at "ev") fun v3 A1 B1 s1 S1 p1 => ?_
    have ev := dp_int p1
    subst ev
    walk_at "nx"
    refine s_asg (K := K) (d := .str P.lead) S1 (ev_ixT (ds := [.str P.lead, .list (P.fin.map eS), .list (P.tab.map eRL)]) (j := 0) (by walk_at "ev") (by walk_at "ev") rfl rfl) fun v4 A2 B2 s2 S2 p2 => ?_
    have ev := dp_str p2
    subst ev
    walk_at "nx"
    refine st_for (K := K) (xs := tl x) (enc := fun c => .str ⟨#[c]⟩) (src_str (by walk_at "ev")) S2.le fun A3 B3 s3 => ⟨fun i σ A B => ∃ (k : Nat) (wr : Str) (z5 z6 : Option V), σ = [some (.str L), some v, some (.str x), some (.int (k : Nat)), some (.str wr), z5, z6] ∧ Tot (fun _ => False) A0 H A B ∧ k < P.fin.length ∧ wr.length ≤ 20 + 20 * i ∧ runR P (pos L ((tl x).drop i)) (k : Nat) wr = rwS P L x, ⟨0, P.lead, _, _, rfl, S2.go s3, wf.pos, by omega, rfl⟩, ?_, ?_⟩
    · rintro i c y σ' A B A4 B4 hi hA hB ⟨k, wr, z5, z6, rfl, S3, hk, hwl, hrun⟩ s4 px
      have S4 := S3.go s4
      have ex := dp_str px
      subst ex
      have hE : Ex A0 A4 := (((s1.kn.trans s2.kn).trans s3.kn).trans hA).trans s4.kn
      have hv := dp_mono hE hv
      have hix : i < (tl x).length := (List.getElem?_eq_some_iff.mp hi).1
      have hix2 := hix
      rw [tl_len] at hix2
      have hcm : c ∈ tl L := hxw.2 c (List.mem_of_getElem? hi)
      have hj := idx_at hcm
      have hjl := List.idxOf_lt_length_iff.mpr hcm
      rw [tl_len] at hjl
      obtain ⟨r, hr1, hr2⟩ := wf.tabAt (s := (k : Int)) (by omega) (by omega)
      have hdrop : (tl x).drop i = c :: (tl x).drop (i + 1) := by
        rw [List.drop_eq_getElem_cons hix]
        rw [List.getElem?_eq_getElem hix] at hi
        rw [Option.some.inj hi]
      have hstep : runR P (pos L ((tl x).drop i)) (k : Nat) wr = match wayAt P (k : Nat) ((tl L).idxOf c) with | none => none | some (t, z) => runR P (pos L ((tl x).drop (i + 1))) (t : Nat) (wr ++ z) := by rw [hdrop]; rfl
      rw [hstep] at hrun
      have htab : EvD K (tOp (rIx K) (tVar 1) (tC (.int 2))) [some (.str L), some v, some (.str x), some (.int (k : Nat)), some (.str wr), some (.str ⟨#[c]⟩), z6] A4 (.list (P.tab.map eRL)) := ev_ixT (ds := [.str P.lead, .list (P.fin.map eS), .list (P.tab.map eRL)]) (j := 2) (ev_var rfl hv) (by walk_at "ev") rfl rfl
      dsimp only [gName]
      refine s_asg (K := K) (d := eW (wayAt P (k : Nat) ((tl L).idxOf c))) S4 (ev_ixL (ds := r.map eW) (ev_ixL (d := eRL r) (ds := P.tab.map eRL) (j := k) htab (by walk_at "ev") rfl (at_map hr1)) (ev_sidx (by walk_at "ev") (by walk_at "ev") lok.nd hj) rfl (at_map (wf.wayIs hr1 (by omega)))) fun v6 A5 B5 s5 S5 p5 => ?_
      have hty : ∀ t z, wayAt P (k : Nat) ((tl L).idxOf c) = some (t, z) → t < P.fin.length ∧ Tx L z := fun t z h => wf.wayTx h
      generalize wayAt P (k : Nat) ((tl L).idxOf c) = wy at *
      walk_at "nx"
      cases wy with
      | none =>
        refine s_if (K := K) (b := true) S5 (et_test (ev_is0 (d := .none) (ev_var rfl p5) (by walk_at "ev") rfl)) (fun _ A6 B6 s6 S6 => ?_) (fun z => nomatch z)
        walk_at "ret"
        rw [← hrun]
        exact ev_c fun _ => Dp.non
      | some tz =>
        obtain ⟨t, z⟩ := tz
        obtain ⟨ht, hz⟩ := hty t z rfl
        have hzl := hz.len
        replace p5 : Dp K A5 v6 (.tuple [.int (t : Nat), .str z]) := p5
        refine s_if (K := K) (b := false) S5 (et_test (ev_is0 (d := .tuple [.int (t : Nat), .str z]) (ev_var rfl p5) (by walk_at "ev") rfl)) (fun z => nomatch z) (fun _ A6 B6 s6 S6 => ?_)
        walk_at "nx"
        refine s_asg (K := K) (d := .int (t : Nat)) S6 (by walk_at "ev") fun v7 A7 B7 s7 S7 p7 => ?_
        have ev := dp_int p7
        subst ev
        walk_at "nx"
        refine s_asg (K := K) (d := .str (wr ++ z)) S7 (ev_addS (by walk_at "ev") (by walk_at "ev") (by omega)) fun v8 A8 B8 s8 S8 p8 => ?_
        have ev := dp_str p8
        subst ev
        exact ⟨A8, (((hA.trans s4.kn).trans s5.kn).trans (s6.kn.trans s7.kn)).trans s8.kn, S8.le, t, wr ++ z, _, _, rfl, S8, ht, by rw [len_app]; omega, hrun⟩
    · rintro σ' A B hA hB ⟨k, wr, z5, z6, rfl, S3, hk, hwl, hrun⟩
      rw [List.drop_length] at hrun
      rw [tl_len] at hwl
      have hE : Ex A0 A := ((s1.kn.trans s2.kn).trans s3.kn).trans hA
      have hv := dp_mono hE hv
      have hrun : (finAt P (k : Nat)).map (wr ++ ·) = rwS P L x := hrun
      have hfin : ∀ A', Ex A A' → EvD K (tOp (rIx K) (tOp (rIx K) (tVar 1) (tC (.int 1))) (tVar 3)) [some (.str L), some v, some (.str x), some (.int (k : Nat)), some (.str wr), z5, z6] A' (eS (finAt P (k : Nat))) := fun A' e => ev_ixL (ds := P.fin.map eS) (j := k) (ev_ixT (ds := [.str P.lead, .list (P.fin.map eS), .list (P.tab.map eRL)]) (j := 1) (ev_var rfl (dp_mono e hv)) (by walk_at "ev") rfl rfl) (by walk_at "ev") rfl (at_map (wf.finAt (s := (k : Int)) (by omega) (by omega)))
      have hft : ∀ f, finAt P (k : Nat) = some f → f.length ≤ 20 := fun f h => (wf.finTx h).len
      generalize finAt P (k : Nat) = fo at *
      walk_at "nx"
      refine s_if (K := K) (b := isN (eS fo)) S3 (et_test (ev_is0 (hfin A (Ex.refl _)) (by walk_at "ev") rfl)) (fun hb A4 B4 s4 S4 => ?_) (fun hb A4 B4 s4 S4 => ?_)
      · cases fo with
        | some f => cases hb
        | none =>
          walk_at "ret"
          rw [← hrun]
          exact ev_c fun _ => Dp.non
      · cases fo with
        | none => cases hb
        | some f =>
          have := hft f rfl
          walk_at "nx"
          walk_at "ret"
          rw [← hrun]
          exact ev_addS (x := wr) (y := f) (by walk_at "ev") (hfin A4 s4.kn) (by omega)
theorem ok_l_do_the_same (Bm : Bl mg) (T : Txt K CR CC) (O_l_texts : OkF P w K mg base 1 "_law_texts" ["_law_letters_here", "_law_most"] (sp_l_texts K CR CC)) (O_l_rewrite : OkF P w K mg base 1 "_law_rewrite" ["_law_letters_here", "_law_parts", "_law_text"] (sp_l_rewrite K CR CC)) (F : DefF K mg "_law_do_the_same" s_l_do_the_same ["_law_letters_here", "_law_first", "_law_second"]) : OkF P w K mg base 2 "_law_do_the_same" ["_law_letters_here", "_law_first", "_law_second"] (sp_l_do_the_same K CR CC) := by
  refine okF_of F sc_l_do_the_same (fun vs H Q E h => ?_) (fun f cdv Ar outer s H vs Q E hr h => ?_)
  · obtain ⟨A, L, F, S, u, v, rfl, _⟩ := h
    rfl
  · obtain ⟨A0, L, F, S, u, v, rfl, hx, lok, WF, WS, hu0, hv0, kk⟩ := h
    have hu := hu_of hr
    refine ⟨_, (pss_cons (ps_for PassesOwn.never rfl (list_K K (pe_F O_l_texts (hr.mono (by decide)) rfl (pa_cons (pv 0) (pa_cons (pe_ifExp (pt_cmpR (eq_K K hr) (b_len K rfl Bm.m_len (pa_cons (pv 0) pa_nil)) pe_int (nomark _)) pe_int pe_int) pa_nil)))) (pg_name (i := 3) sc_l_do_the_same.nd rfl (by first | exact Or.inl rfl | exact Or.inr rfl))
       (pss_one (ps_if (pt_cmpR (ne_K K hr) (pe_F O_l_rewrite (hr.mono (by decide)) rfl (pa_cons (pv 0) (pa_cons (pv 1) (pa_cons (pv 3) pa_nil)))) (pe_F O_l_rewrite (hr.mono (by decide)) rfl (pa_cons (pv 0) (pa_cons (pv 2) (pa_cons (pv 3) pa_nil)))) (nomark _)) (pss_one (ps_ret pe_bl)) pss_nil)))
      (pss_one (ps_ret pe_bl))), ?_⟩
    have S0 : Tot (fun _ => False) A0 H A0 H := .refl hx
    have l1 := lok.pos
    have l2 := lok.two
    have hm : ∃ m : Nat, m ≤ 12 ∧ m * L.length ^ m ≤ 3000 ∧ ∀ A, EvD K (tIf (tTest (tOp (rEqA K) (tCB (rLen K) (tCons (tVar 0) tNil)) (tC (.int 1)))) (tC (.int 12)) (tC (.int 8))) [some (.str L), some u, some v, none] A (.int (m : Nat)) := by
      by_cases e : L.length = 1
      · refine ⟨12, by decide, by rw [e]; decide, fun A => ev_if (b := true) (et_is (b := decide ((L.length : Int) = 1)) (et_test (ev_eqS (x := .int (L.length : Nat)) (ev_len (d := .str L) (by walk_at "ev") (if_pos (by omega))) (by walk_at "ev") rfl)) (decide_eq_true (by omega))) (fun _ => ev_c fun _ => .int _) fun z => nomatch z⟩
      · have e2 : L.length = 2 := by omega
        refine ⟨8, by decide, by rw [e2]; decide, fun A => ev_if (b := false) (et_is (b := decide ((L.length : Int) = 1)) (et_test (ev_eqS (x := .int (L.length : Nat)) (ev_len (d := .str L) (by walk_at "ev") (if_pos (by omega))) (by walk_at "ev") rfl)) (decide_eq_false (by omega))) (fun z => nomatch z) (fun _ => ev_c fun _ => .int _)⟩
    obtain ⟨m, hm1, hm2, hme⟩ := hm
    -- the texts first
    refine st_forL (q := fun xs : List Str => (∀ x ∈ xs, TxW L x) ∧ xs.length ≤ 3001) (enc := .str) ?_ hx fun vx A1 B1 xs s1 hq hd => ?_
    · refine ev_call (R := fun A vs => PsAt A [isV (.str L), isD K (.int (m : Nat))] vs) (eap_cons (by walk_at "ref") mon_v (eap_cons (hme A0) mon_d eap_nil)) fun A B vs e f r Q k => ?_
      obtain ⟨u1, u2, rfl, rfl, r2⟩ := ps_two r
      exact ⟨A, L, m, by rw [dp_int r2], f, lok, hm1, hm2, fun v A' B' s p => by
        obtain ⟨xs, h1, h2, h3⟩ := p
        exact k v A' B' s ⟨xs, ⟨h1, h2⟩, h3⟩⟩
    have S1 := S0.go s1
    refine st_for (K := K) (xs := xs) (enc := .str) (src_list (ev_cd hd)) S1.le fun A2 B2 s2 => ⟨fun i σ A B => ∃ z3, σ = [some (.str L), some u, some v, z3] ∧ Tot (fun _ => False) A0 H A B, ⟨_, rfl, S1.go s2⟩, ?_, ?_⟩
    · rintro i x y σ' A B A3 B3 hi hA hB ⟨z3, rfl, S2⟩ s3 px
      have S3 := S2.go s3
      have ex := dp_str px
      subst ex
      have hE : Ex A0 A3 := ((s1.kn.trans s2.kn).trans hA).trans s3.kn
      have hxw := hq.1 x (List.mem_of_getElem? hi)
      have hrw : ∀ (P : Rw) (v' : V) (j : Nat), Wf L P → Dp K A3 v' (eParts P) → [some (V.str L), some u, some v, some (.str x)][j]? = some (some v') → ∀ A', Ex A3 A' → EvD K (tCall (sp_l_rewrite K CR CC) [] E0 (tCons (tVar 0) (tCons (tVar j) (tCons (tVar 3) tNil)))) [some (.str L), some u, some v, some (.str x)] A' (eS (rwS P L x)) := by
        intro P v' j wf hd hj A' e
        refine ev_call (R := fun A vs => PsAt A [isV (.str L), isD K (eParts P), isV (.str x)] vs) (eap_cons (by walk_at "ref") mon_v (eap_cons (ev_var hj (dp_mono e hd)) mon_d (eap_cons (by walk_at "ref") mon_v eap_nil))) fun A B vs e f r Q k => ?_
        obtain ⟨u1, u2, u3, rfl, rfl, r2, rfl⟩ := ps_three r
        exact ⟨A, L, x, P, u2, rfl, f, lok, wf, r2, hxw, k⟩
      dsimp only [gName]
      refine s_if (K := K) (b := !decide (rwS F L x = rwS S L x)) S3 (et_test (ev_neS (hrw F u 1 WF (dp_mono hE hu0) rfl A3 (Ex.refl _)) (hrw S v 2 WS (dp_mono hE hv0) rfl A3 (Ex.refl _)) eS_eq)) (fun hb A4 B4 s4 S4 => ?_) (fun hb A4 B4 s4 S4 => ?_)
      · refine s_retP S4 kk (EvP.imp (P := isV (.bl false)) ev_cv fun A v _ p => ⟨false, p, fun h => ?_⟩)
        have := h x hxw.2
        simp [this] at hb
      · exact ⟨A4, (hA.trans s3.kn).trans s4.kn, S4.le, _, rfl, S4⟩
    · rintro σ' A B hA hB ⟨z3, rfl, S2⟩
      walk_at "nx"
      exact s_retP S2 kk (EvP.imp (P := isV (.bl true)) ev_cv fun A v _ p => ⟨true, p, fun _ => rfl⟩)
end
-- W24
def RT (L : Str) (r : PRow) : Prop := Tx L r.2.2.1 ∧ Tx L r.2.2.2
structure PK (L : Str) (n : Nat) (p : Pap) : Prop where
  g : p.gone.length ≤ 4 + 2 * n
  f : p.far.length ≤ 4 + 2 * n
  r : p.rows.length ≤ 100 + n
  t : ∀ r ∈ p.rows, RT L r
theorem PK.ok {L : Str} {n : Nat} {p : Pap} (h : PK L n p) (lok : LOk L) (hn : n ≤ 40) : POk p := ⟨by have := h.g; omega, by have := h.f; omega, by have := h.r; omega, fun r hr => ⟨(h.t r hr).1.mo lok, (h.t r hr).2.mo lok⟩⟩
theorem PK.up {L : Str} {n m : Nat} {p : Pap} (h : PK L n p) (hm : n ≤ m) : PK L m p := ⟨by have := h.g; omega, by have := h.f; omega, by have := h.r; omega, h.t⟩
def sp_l_row (K : PySem.W.Frag) (CR CC : Addr) : Sp := fun vs H Q _ => ∃ (A : Hp) (s an : Addr) (L : Str) (m o : Nat), vs = [.str L, .ref s, .int (m : Nat), .int (o : Nat)] ∧ Ex A H ∧ SS s an A H ∧ NumA K A an ∧ LOk L ∧ 0 < m ∧ m ≤ 100 ∧ 0 < o ∧ o ≤ 100 ∧ RetS s an A H Q fun A v => ∃ r : PRow, RT L r ∧ Dp K A v (eR r)
def sp_l_all_rows (K : PySem.W.Frag) (CR CC : Addr) : Sp := fun vs H Q _ => ∃ (A : Hp) (L : Str) (m o : Nat), vs = [.str L, .int (m : Nat), .int (o : Nat)] ∧ Ex A H ∧ LOk L ∧ m ≤ 3 ∧ o ≤ 4 ∧ RetP A H Q fun A v => ∃ rows : List PRow, (∀ r ∈ rows, RT L r) ∧ rows.length ≤ 96 ∧ Dp K A v (.tuple (rows.map eR))
theorem tx_nil {L : Str} : Tx L "" := ⟨by decide, fun c h => nomatch h⟩
theorem tx_one {L : Str} {c : Nat} (h : c ∈ tl L) : Tx L ⟨#[c]⟩ := ⟨by show (1 : Nat) ≤ 20; decide, fun d hd => by
  have e : tl (⟨#[c]⟩ : Str) = [c] := rfl
  rw [e, List.mem_singleton] at hd
  subst hd
  exact h⟩
theorem tx_app {L x y : Str} (hx : ∀ c ∈ tl x, c ∈ tl L) (hy : ∀ c ∈ tl y, c ∈ tl L) (hl : x.length + y.length ≤ 20) : Tx L (x ++ y) := ⟨by rw [len_app]; exact hl, fun c hc => by
  rw [tl_app] at hc
  rcases List.mem_append.mp hc with h | h
  · exact hx c h
  · exact hy c h⟩
section
variable {K : PySem.W.Frag} {CR CC : Addr} {s an : Addr} {σ : L2.St} {A0 : Hp} {ta tb tc td te : TE}
theorem evs_tup4 {P1 P2 P3 P4 : Hp → V → Prop} (h1 : EvS s an ta σ A0 P1) (h2 : EvS s an tb σ A0 P2) (h3 : EvS s an tc σ A0 P3) (h4 : EvS s an td σ A0 P4) (m1 : Mon P1) (m2 : Mon P2) (m3 : Mon P3) (m4 : Mon P4) : EvS s an (tTup (tCons ta (tCons tb (tCons tc (tCons td tNil))))) σ A0 fun A v => ∃ a u w x y, v = .ref a ∧ A a = some (.tup [u, w, x, y]) ∧ P1 A u ∧ P2 A w ∧ P3 A x ∧ P4 A y :=
  EvS.imp (evs_tup (Ps := [P1, P2, P3, P4]) (evsa_cons h1 m1 (evsa_cons h2 m2 (evsa_cons h3 m3 (evsa_cons h4 m4 evsa_nil)))) (fun A A' vs e r => by
    obtain ⟨u, v, w, x, rfl, r1, r2, r3, r4⟩ := ps_four r
    exact ⟨m1 _ _ _ e r1, m2 _ _ _ e r2, m3 _ _ _ e r3, m4 _ _ _ e r4, trivial⟩) (fun A vs r => by
    obtain ⟨u, v, w, x, rfl, r1, r2⟩ := ps_four r
    show 4 ≤ 1000
    decide)) fun A v _ p => by
    obtain ⟨a, vs, rfl, ha, r⟩ := p
    obtain ⟨u, w, x, y, rfl, r1, r2, r3, r4⟩ := ps_four r
    exact ⟨a, u, w, x, y, rfl, ha, r1, r2, r3, r4⟩
theorem mon_i : Mon isInt := fun _ _ _ _ h => h
theorem evs_nat {m : Nat} (h : EvS s an te σ A0 fun _ v => ∃ r : Nat, r < m ∧ v = .int (r : Nat)) : EvS s an te σ A0 isInt := h.imp fun _ _ _ ⟨r, _, e⟩ => ⟨_, e⟩
theorem evs_sub (K : PySem.W.Frag) {m n : Nat} (h1 : EvS s an ta σ A0 fun _ v => ∃ r : Nat, r < m ∧ v = .int (r : Nat)) (h2 : EvS s an tb σ A0 fun _ v => ∃ r : Nat, r < n ∧ v = .int (r : Nat)) : EvS s an (tOp (rI0 fun i j => .int (i - j)) ta tb) σ A0 isInt :=
  evs_op h1 h2 (fun _ _ _ _ h => h) fun A u v e p1 p2 => by
    obtain ⟨r, _, rfl⟩ := p1
    obtain ⟨q, _, rfl⟩ := p2
    exact EvP.imp (P := isD K (.int ((r : Int) - q))) (ev_subI (ev_var rfl (.int _)) (ev_var rfl (.int _))) fun A v _ p => ⟨_, dp_int p⟩
theorem evs_up {i m : Nat} (hN : NumA K A0 an) {j : Nat} (hj : σ[j]? = some (some (.ref s))) (h : σ[i]? = some (some (.int (m : Nat)))) (hm : m ≤ 100) : EvS s an (tCall (sp_l_next K CR CC) [] E0 (tCons (tVar j) (tCons (tOp (rPlus K) (tVar i) (tC (.int 1))) tNil))) σ A0 fun _ v => ∃ r : Nat, r < m + 1 ∧ v = .int (r : Nat) :=
  evs_next hN hj (ev_is (ev_addI (i := (m : Nat)) (j := 1) (ev_var h (.int _)) (ev_c fun _ => .int _)) rfl) (by omega) (by omega)
end
theorem tl_head {L : Str} (h : 1 ≤ L.length) : ∃ c, (tl L)[0]? = some c ∧ c ∈ tl L := by
  have h1 : 0 < (tl L).length := by rw [tl_len]; omega
  exact ⟨(tl L)[0], List.getElem?_eq_getElem h1, List.getElem_mem h1⟩
section
variable {P : Program} {w : World} {K : PySem.W.Frag} {mg : Str → Option Value} {base : Heap} {CR CC : Addr}
theorem ok_l_row (Bm : Bl mg) (T : Txt K CR CC) (O_l_word : OkF P w K mg base 2 "_law_word" ["_law_letters_here", "_law_state_here", "_law_most"] (sp_l_word K CR CC)) (O_l_next : OkF P w K mg base 1 "_law_next" ["_law_state_here", "_law_many"] (sp_l_next K CR CC)) (F : DefF K mg "_law_row" s_l_row ["_law_letters_here", "_law_state_here", "_law_many", "_law_others"]) : OkF P w K mg base 3 "_law_row" ["_law_letters_here", "_law_state_here", "_law_many", "_law_others"] (sp_l_row K CR CC) := by
  refine okF_of F sc_l_row (fun vs H Q E h => ?_) (fun f cdv Ar outer s H vs Q E hr h => ?_)
  · obtain ⟨A, s, an, L, m, o, rfl, _⟩ := h
    rfl
  · obtain ⟨A0, s, an, L, m, o, rfl, hx, Z0, N, lok, hm0, hm1, ho0, ho1, kk⟩ := h
    have hu := hu_of hr
    refine ⟨_, (pss_cons (ps_set (i := 4) sc_l_row.nd rfl (Or.inl rfl) (pe_F O_l_word (hr.mono (by decide)) rfl (pa_cons (pv 0) (pa_cons (pv 1) (pa_cons pe_int pa_nil)))))
      (pss_cons (ps_set (i := 5) sc_l_row.nd rfl (Or.inl rfl) (pe_F O_l_next (hr.mono (by decide)) rfl (pa_cons (pv 1) (pa_cons pe_int pa_nil))))
      (pss_cons (ps_if (pt_cmpR (eq_K K hr) (pv 5) pe_int (nomark _)) (pss_one (ps_ret (pe_tup (pa_cons (pe_F O_l_next (hr.mono (by decide)) rfl (pa_cons (pv 1) (pa_cons (pv 2) pa_nil))) (pa_cons (pe_F O_l_next (hr.mono (by decide)) rfl (pa_cons (pv 1) (pa_cons (pv 3) pa_nil))) (pa_cons (pv 4) (pa_cons pe_str pa_nil))))))) pss_nil)
      (pss_cons (ps_if (pt_cmpR (eq_K K hr) (pv 5) pe_int (nomark _)) (pss_one (ps_ret (pe_tup (pa_cons (pe_F O_l_next (hr.mono (by decide)) rfl (pa_cons (pv 1) (pa_cons (pv 2) pa_nil))) (pa_cons (pe_op op_sub (pe_F O_l_next (hr.mono (by decide)) rfl (pa_cons (pv 1) (pa_cons (pe_op (plus_K K) (pv 3) pe_int) pa_nil))) (pe_F O_l_next (hr.mono (by decide)) rfl (pa_cons (pv 1) (pa_cons pe_int pa_nil)))) (pa_cons (pe_op (plus_K K) (pe_ix (ix_K K) (pv 0) pe_int (fun _ _ => rfl)) (pv 4)) (pa_cons (pe_ix (ix_K K) (pv 0) pe_int (fun _ _ => rfl)) pa_nil))))))) pss_nil)
      (pss_one (ps_ret (pe_tup (pa_cons (pe_op op_sub (pe_F O_l_next (hr.mono (by decide)) rfl (pa_cons (pv 1) (pa_cons (pe_op (plus_K K) (pv 2) pe_int) pa_nil))) (pe_F O_l_next (hr.mono (by decide)) rfl (pa_cons (pv 1) (pa_cons pe_int pa_nil)))) (pa_cons (pe_F O_l_next (hr.mono (by decide)) rfl (pa_cons (pv 1) (pa_cons (pv 3) pa_nil))) (pa_cons pe_str (pa_cons (pv 4) pa_nil))))))))))), ?_⟩
    have S0 : Tot (fun a => a = s) A0 H A0 H := .refl hx
    have l1 := lok.pos
    have l2 := lok.two
    refine z_asg S0 Z0 (evs_word (CR := CR) (CC := CC) N lok rfl rfl) fun v A1 B1 s1 S1 Z1 p1 => ?_
    obtain ⟨wd, hwd, rfl⟩ := p1
    have wl := hwd.len
    have N1 := N.mono s1.kn
    walk_at "nx"
    refine z_asg S1 Z1 (evs_next (CR := CR) (CC := CC) (m := 3) N1 rfl (by walk_at "ev") (by decide) (by decide)) fun v A2 B2 s2 S2 Z2 p2 => ?_
    obtain ⟨kd, hkd, rfl⟩ := p2
    have N2 := N1.mono s2.kn
    walk_at "nx"
    refine z_if (Pb := fun _ => True) S2 Z2 (est_eq0 (K := K) (m := 3) (z := 1) (evs (EvP.imp (P := isV (.int (kd : Nat))) (by walk_at "ref") fun _ _ _ p => ⟨kd, hkd, p⟩))) (fun _ A3 B3 s3 S3 Z3 => ?_) (fun _ A3 B3 s3 S3 Z3 => ?_)
    · have N3 := N2.mono s3.kn
      refine z_ret S3 Z3 kk (EvS.imp (evs_tup4 (P1 := isInt) (P2 := isInt) (P3 := isV (.str wd)) (P4 := isV (.str "")) (evs_nat (evs_next (CR := CR) (CC := CC) (m := m) N3 rfl (by walk_at "ev") hm0 (by omega))) (evs_nat (evs_next (CR := CR) (CC := CC) (m := o) N3 rfl (by walk_at "ev") ho0 (by omega))) (evs (by walk_at "ref")) (evs ev_cv) mon_i mon_i mon_v mon_v) fun A v _ p => ?_)
      obtain ⟨a, u, w, x, y, rfl, ha, ⟨i, rfl⟩, ⟨j, rfl⟩, rfl, rfl⟩ := p
      exact ⟨(i, j, wd, ""), ⟨hwd.tx, tx_nil⟩, .tup (SqT.of ha) (.cons (.int _) (.cons (.int _) (.cons (.str _) (.cons (.str _) .nil))))⟩
    have N3 := N2.mono s3.kn
    walk_at "nx"
    refine z_if (Pb := fun _ => True) S3 Z3 (est_eq0 (K := K) (m := 3) (z := 2) (evs (EvP.imp (P := isV (.int (kd : Nat))) (by walk_at "ref") fun _ _ _ p => ⟨kd, hkd, p⟩))) (fun _ A4 B4 s4 S4 Z4 => ?_) (fun _ A4 B4 s4 S4 Z4 => ?_)
    · have N4 := N3.mono s4.kn
      obtain ⟨c, hc0, hc⟩ := tl_head l1
      have hL0 : ∀ (σ : L2.St) (A : Hp), σ[0]? = some (some (.str L)) → EvD K (tOp (rIx K) (tVar 0) (tC (.int 0))) σ A (.str ⟨#[c]⟩) := fun σ A h => ev_ixS (ev_var h (.str _)) (by walk_at "ev") (by omega) (atI_nat (j := 0) hc0)
      have e1 : (⟨#[c]⟩ : Str).length = 1 := rfl
      refine z_ret S4 Z4 kk (EvS.imp (evs_tup4 (P1 := isInt) (P2 := isInt) (P3 := isD K (.str (⟨#[c]⟩ ++ wd))) (P4 := isD K (.str ⟨#[c]⟩)) (evs_nat (evs_next (CR := CR) (CC := CC) (m := m) N4 rfl (by walk_at "ev") hm0 (by omega))) (evs_sub K (evs_up (CR := CR) (CC := CC) (m := o) N4 rfl rfl ho1) (evs_next (CR := CR) (CC := CC) (m := 2) N4 rfl (by walk_at "ev") (by decide) (by decide))) (evs (ev_addS (x := ⟨#[c]⟩) (y := wd) (hL0 _ _ rfl) (by walk_at "ev") (by omega))) (evs (hL0 _ _ rfl)) mon_i mon_i mon_d mon_d) fun A v _ p => ?_)
      obtain ⟨a, u, w, x, y, rfl, ha, ⟨i, rfl⟩, ⟨j, rfl⟩, r3, r4⟩ := p
      exact ⟨(i, j, ⟨#[c]⟩ ++ wd, ⟨#[c]⟩), ⟨tx_app (tx_one hc).mem hwd.mem (by omega), tx_one hc⟩, .tup (SqT.of ha) (.cons (.int _) (.cons (.int _) (.cons r3 (.cons r4 .nil))))⟩
    have N4 := N3.mono s4.kn
    walk_at "nx"
    refine z_ret S4 Z4 kk (EvS.imp (evs_tup4 (P1 := isInt) (P2 := isInt) (P3 := isV (.str "")) (P4 := isV (.str wd)) (evs_sub K (evs_up (CR := CR) (CC := CC) (m := m) N4 rfl rfl hm1) (evs_next (CR := CR) (CC := CC) (m := 2) N4 rfl (by walk_at "ev") (by decide) (by decide))) (evs_nat (evs_next (CR := CR) (CC := CC) (m := o) N4 rfl (by walk_at "ev") ho0 (by omega))) (evs ev_cv) (evs (by walk_at "ref")) mon_i mon_i mon_v mon_v) fun A v _ p => ?_)
    obtain ⟨a, u, w, x, y, rfl, ha, ⟨i, rfl⟩, ⟨j, rfl⟩, rfl, rfl⟩ := p
    exact ⟨(i, j, "", wd), ⟨tx_nil, hwd.tx⟩, .tup (SqT.of ha) (.cons (.int _) (.cons (.int _) (.cons (.str _) (.cons (.str _) .nil))))⟩
theorem ok_l_all_rows (Bm : Bl mg) (T : Txt K CR CC)  (F : DefF K mg "_law_all_rows" s_l_all_rows ["_law_letters_here", "_law_many", "_law_others"]) : OkF P w K mg base 1 "_law_all_rows" ["_law_letters_here", "_law_many", "_law_others"] (sp_l_all_rows K CR CC) := by
  refine okF_of F sc_l_all_rows (fun vs H Q E h => ?_) (fun f cdv Ar outer s H vs Q E hr h => ?_)
  · obtain ⟨A, L, m, o, rfl, _⟩ := h
    rfl
  · obtain ⟨A0, L, m, o, rfl, hx, lok, hm, ho, kk⟩ := h
    have hu := hu_of hr
    refine ⟨_, (pss_cons (ps_set (i := 3) sc_l_all_rows.nd rfl (Or.inl rfl) (pe_lst pa_nil))
      (pss_cons (ps_for PassesOwn.never rfl (pi_range1 rfl Bm.m_range (pa_cons (pv 1) pa_nil)) (pg_name (i := 4) sc_l_all_rows.nd rfl (by first | exact Or.inl rfl | exact Or.inr rfl))
       (pss_one (ps_for PassesOwn.never rfl (pi_range1 rfl Bm.m_range (pa_cons (pv 2) pa_nil)) (pg_name (i := 5) sc_l_all_rows.nd rfl (by first | exact Or.inl rfl | exact Or.inr rfl))
         (pss_one (ps_for PassesOwn.never rfl (list_K K (pe_lst (pa_cons pe_str (pa_cons (pe_ix (ix_K K) (pv 0) pe_int (fun _ _ => rfl)) (pa_cons (pe_ix (ix_K K) (pv 0) (pe_un un_neg pe_int) (fun _ _ => rfl)) (pa_cons (pe_op (plus_K K) (pe_ix (ix_K K) (pv 0) pe_int (fun _ _ => rfl)) (pe_ix (ix_K K) (pv 0) (pe_un un_neg pe_int) (fun _ _ => rfl))) pa_nil)))))) (pg_name (i := 6) sc_l_all_rows.nd rfl (by first | exact Or.inl rfl | exact Or.inr rfl))
           (pss_one (ps_set (i := 3) sc_l_all_rows.nd rfl (Or.inl rfl) (pe_op (plus_K K) (pv 3) (pe_lst (pa_cons (pe_tup (pa_cons (pv 4) (pa_cons (pv 5) (pa_cons (pv 6) (pa_cons pe_str pa_nil))))) (pa_cons (pe_tup (pa_cons (pv 4) (pa_cons (pv 5) (pa_cons pe_str (pa_cons (pv 6) pa_nil))))) pa_nil)))))))))))
      (pss_one (ps_ret (b_tuple K rfl Bm.m_tuple (pa_cons (pv 3) pa_nil)))))), ?_⟩
    have S0 : Tot (fun _ => False) A0 H A0 H := .refl hx
    have l1 := lok.pos
    have l2 := lok.two
    obtain ⟨c, hc0, hc⟩ := tl_head l1
    have hlast : ∃ d, atI (tl L) (-1) = some d ∧ d ∈ tl L := by
      have h1 : (tl L).length - 1 < (tl L).length := by rw [tl_len]; omega
      refine ⟨(tl L)[(tl L).length - 1], ?_, List.getElem_mem h1⟩
      have h3 : (tl L).length = L.length := tl_len L
      unfold atI ixN
      rw [if_neg (by decide)]
      rcases (by omega : (tl L).length = 1 ∨ (tl L).length = 2) with e | e
      · simp [e]
      · simp [e]
    obtain ⟨d, hd1, hd⟩ := hlast
    have e1 : (⟨#[c]⟩ : Str).length = 1 := rfl
    have e2 : (⟨#[d]⟩ : Str).length = 1 := rfl
    have wtx : ∀ x ∈ [("" : Str), ⟨#[c]⟩, ⟨#[d]⟩, ⟨#[c]⟩ ++ ⟨#[d]⟩], Tx L x := by
      intro x hx
      simp only [List.mem_cons, List.not_mem_nil, or_false] at hx
      rcases hx with rfl | rfl | rfl | rfl
      · exact tx_nil
      · exact tx_one hc
      · exact tx_one hd
      · exact tx_app (tx_one hc).mem (tx_one hd).mem (by omega)
    refine s_asgP S0 (evl_lst (K := K) (ds := []) ead_nil (Nat.zero_le _)) fun v3 A1 B1 s1 S1 p1 => ?_
    walk_at "nx"
    refine st_for (K := K) (xs := List.range m) (enc := fun i => .int (i : Nat)) (src_range1 (by walk_at "ev") (by omega)) S1.le fun A2 B2 s2 => ⟨fun i σ A B => ∃ (rows : List PRow) (v3 : V) (z4 z5 z6 : Option V), σ = [some (.str L), some (.int (m : Nat)), some (.int (o : Nat)), some v3, z4, z5, z6] ∧ Tot (fun _ => False) A0 H A B ∧ HL K (rows.map eR) A v3 ∧ (∀ r ∈ rows, RT L r) ∧ rows.length ≤ i * 32, ⟨[], _, _, _, _, rfl, S1.go s2, p1.mono s2.kn, (fun _ h => nomatch h), by simp⟩, ?_, ?_⟩
    · rintro i k x σ' A B A3 B3 hi hA hB ⟨rows, v3, z4, z5, z6, rfl, S2, h3, hrt, hrl⟩ s3 px
      have S3 := S2.go s3
      have h3 := h3.mono s3.kn
      have ex := dp_int px
      subst ex
      have him : i < m := by
        have := (List.getElem?_eq_some_iff.mp hi).1
        rw [List.length_range] at this
        exact this
      dsimp only [gName]
      refine st_for (K := K) (xs := List.range o) (enc := fun i => .int (i : Nat)) (src_range1 (by walk_at "ev") (by omega)) S3.le fun A4 B4 s4 => ⟨fun j σ A B => ∃ (rows : List PRow) (v3 : V) (z5 z6 : Option V), σ = [some (.str L), some (.int (m : Nat)), some (.int (o : Nat)), some v3, some (.int (k : Nat)), z5, z6] ∧ Tot (fun _ => False) A0 H A B ∧ HL K (rows.map eR) A v3 ∧ (∀ r ∈ rows, RT L r) ∧ rows.length ≤ i * 32 + j * 8, ⟨rows, _, _, _, rfl, S3.go s4, h3.mono s4.kn, hrt, by omega⟩, ?_, ?_⟩
      · rintro j k2 x2 σ' A' B' A5 B5 hj hA' hB' ⟨rows, v3, z5, z6, rfl, S4, h3, hrt, hrl⟩ s5 px2
        have S5 := S4.go s5
        have h3 := h3.mono s5.kn
        have ex := dp_int px2
        subst ex
        have hjo : j < o := by
          have := (List.getElem?_eq_some_iff.mp hj).1
          rw [List.length_range] at this
          exact this
        dsimp only [gName]
        have hL0 : ∀ (σ : L2.St) (A : Hp), σ[0]? = some (some (.str L)) → EvD K (tOp (rIx K) (tVar 0) (tC (.int 0))) σ A (.str ⟨#[c]⟩) := fun σ A h => ev_ixS (ev_var h (.str _)) (by walk_at "ev") (by omega) (atI_nat (j := 0) hc0)
        have hL1 : ∀ (σ : L2.St) (A : Hp), σ[0]? = some (some (.str L)) → EvD K (tOp (rIx K) (tVar 0) (tUn (rU fun i => .int (-i)) (tC (.int 1)))) σ A (.str ⟨#[d]⟩) := fun σ A h => ev_ixS (i := -1) (ev_var h (.str _)) (fun A B a b Q q => ⟨1, rfl, q _ A B (.refl b) (.int _)⟩) (by omega) hd1
        refine st_for (K := K) (xs := [("" : Str), ⟨#[c]⟩, ⟨#[d]⟩, ⟨#[c]⟩ ++ ⟨#[d]⟩]) (enc := .str) (src_list (ev_lst (ead_cons (by walk_at "ev") (ead_cons (hL0 _ _ rfl) (ead_cons (hL1 _ _ rfl) (ead_cons (ev_addS (x := ⟨#[c]⟩) (y := ⟨#[d]⟩) (hL0 _ _ rfl) (hL1 _ _ rfl) (by omega)) ead_nil)))) (Nat.le_of_ble_eq_true rfl))) S5.le fun A6 B6 s6 => ⟨fun q σ A B => ∃ (rows : List PRow) (v3 : V) (z6 : Option V), σ = [some (.str L), some (.int (m : Nat)), some (.int (o : Nat)), some v3, some (.int (k : Nat)), some (.int (k2 : Nat)), z6] ∧ Tot (fun _ => False) A0 H A B ∧ HL K (rows.map eR) A v3 ∧ (∀ r ∈ rows, RT L r) ∧ rows.length ≤ i * 32 + j * 8 + q * 2, ⟨rows, _, _, rfl, S5.go s6, h3.mono s6.kn, hrt, by omega⟩, ?_, ?_⟩
        · rintro q wd x3 σ' A'' B'' A7 B7 hq hA'' hB'' ⟨rows, v3, z6, rfl, S6, h3, hrt, hrl⟩ s7 px3
          have S7 := S6.go s7
          have h3 := h3.mono s7.kn
          have ex := dp_str px3
          subst ex
          have hwt := wtx wd (List.mem_of_getElem? hq)
          have hq4 : q < 4 := (List.getElem?_eq_some_iff.mp hq).1
          dsimp only [gName]
          refine s_asgP S7 (evl_add (K := K) (xs := rows.map eR) (ys := [eR ((k : Int), (k2 : Int), wd, ""), eR ((k : Int), (k2 : Int), "", wd)]) (ev_varP rfl fun A e => h3.mono e) (evl_lst (ead_cons (ev_tup (ds := [.int (k : Nat), .int (k2 : Nat), .str wd, .str ""]) (by walk_at "ea") (Nat.le_of_ble_eq_true rfl)) (ead_cons (ev_tup (ds := [.int (k : Nat), .int (k2 : Nat), .str "", .str wd]) (by walk_at "ea") (Nat.le_of_ble_eq_true rfl)) ead_nil)) (Nat.le_of_ble_eq_true rfl)) (by rw [List.length_map]; show rows.length + 2 ≤ _; omega)) fun v8 A8 B8 s8 S8 p8 => ?_
          refine ⟨A8, (hA''.trans s7.kn).trans s8.kn, S8.le, rows ++ ([((k : Int), (k2 : Int), wd, ""), ((k : Int), (k2 : Int), "", wd)] : List PRow), v8, _, rfl, S8, by rw [List.map_append]; exact p8, ?_, by rw [List.length_append]; show rows.length + 2 ≤ _; omega⟩
          intro r hr
          rcases List.mem_append.mp hr with h | h
          · exact hrt r h
          · simp only [List.mem_cons, List.not_mem_nil, or_false] at h
            rcases h with rfl | rfl
            · exact ⟨hwt, tx_nil⟩
            · exact ⟨tx_nil, hwt⟩
        · rintro σ' A'' B'' hA'' hB'' ⟨rows, v3, z6, rfl, S6, h3, hrt, hrl⟩
          have hrl : rows.length ≤ i * 32 + j * 8 + 4 * 2 := hrl
          exact ⟨A'', ((hA'.trans s5.kn).trans s6.kn).trans hA'', hB'', rows, v3, _, _, rfl, S6, h3, hrt, by omega⟩
      · rintro σ' A' B' hA' hB' ⟨rows, v3, z5, z6, rfl, S4, h3, hrt, hrl⟩
        rw [List.length_range] at hrl
        exact ⟨A', ((hA.trans s3.kn).trans s4.kn).trans hA', hB', rows, v3, _, _, _, rfl, S4, h3, hrt, by omega⟩
    · rintro σ' A B hA hB ⟨rows, v3, z4, z5, z6, rfl, S2, h3, hrt, hrl⟩
      rw [List.length_range] at hrl
      walk_at "nx"
      exact s_retP S2 kk (EvP.imp (P := isD K (.tuple (rows.map eR))) (ev_tupOfL (ev_varP rfl fun A e => (h3.mono e).dp)) fun A v _ p => ⟨rows, hrt, by omega, p⟩)
end
-- W25
def sp_l_spoilt (K : PySem.W.Frag) (CR CC : Addr) : Sp := fun vs H Q _ => ∃ (A : Hp) (s an : Addr) (L : Str) (v : V) (pa : Pap) (n m o : Nat), vs = [.str L, .ref s, v, .int (m : Nat), .int (o : Nat)] ∧ Ex A H ∧ SS s an A H ∧ NumA K A an ∧ LOk L ∧ Dp K A v (eP pa) ∧ PK L n pa ∧ n ≤ 20 ∧ 0 < m ∧ m ≤ 3 ∧ 0 < o ∧ o ≤ 4 ∧ RetS s an A H Q fun A v => ∃ pa' : Pap, PK L (n + 1) pa' ∧ Dp K A v (eP pa')
theorem cutD_to {α : Type} (xs : List α) (q : Nat) : cutD xs none (some (q : Nat)) = xs.take q := by
  unfold cutD
  rw [HT.sIx_nat, HT.sIx_none, List.drop_zero, Nat.sub_zero]
  by_cases h : q ≤ xs.length
  · rw [Nat.min_eq_left h]
  · rw [Nat.min_eq_right (by omega), List.take_length, List.take_of_length_le (by omega)]
theorem cutD_from {α : Type} (xs : List α) (q : Nat) : cutD xs (some (q : Nat)) none = xs.drop q := by
  unfold cutD
  rw [HT.sIx_nat, HT.sIx_none]
  by_cases h : q ≤ xs.length
  · rw [Nat.min_eq_left h]
    refine List.take_of_length_le ?_
    rw [List.length_drop]
    exact Nat.le_refl _
  · rw [Nat.min_eq_right (by omega), List.drop_of_length_le (by omega), List.drop_of_length_le (by omega)]
    simp
section
variable {K : PySem.W.Frag} {CR CC : Addr} {s an : Addr} {σ : L2.St} {A0 : Hp} {ta tb tc td te : TE}
theorem ev_to {α : Type} {enc : α → PyData} {xs : List α} {q : Nat} (h : EvD K ta σ A0 (.tuple (xs.map enc))) (hq : EvD K tb σ A0 (.int (q : Nat))) : EvD K (tSl (rSlAny K) ta tNoPart (tPart tb)) σ A0 (.tuple ((xs.take q).map enc)) :=
  ev_is (ev_slT h eo_none (eo_some hq)) (by rw [cutD_to, List.map_take])
theorem ev_from {α : Type} {enc : α → PyData} {xs : List α} {q : Nat} (h : EvD K ta σ A0 (.tuple (xs.map enc))) (hq : EvD K tb σ A0 (.int (q : Nat))) : EvD K (tSl (rSlAny K) ta (tPart tb) tNoPart) σ A0 (.tuple ((xs.drop q).map enc)) :=
  ev_is (ev_slT h (eo_some hq) eo_none) (by rw [cutD_from, List.map_drop])
theorem ev_cat {α : Type} {enc : α → PyData} {xs ys : List α} (h : EvD K ta σ A0 (.tuple (xs.map enc))) (h2 : EvD K tb σ A0 (.tuple (ys.map enc))) (hl : xs.length + ys.length ≤ 1000000) : EvD K (tOp (rPlus K) ta tb) σ A0 (.tuple ((xs ++ ys).map enc)) :=
  ev_is (ev_addT h h2 (by rw [List.length_map, List.length_map]; exact hl)) (by rw [List.map_append])
/-- a paper of three parts -/
theorem ev_pap {g f : List Int} {rs : List PRow} (h1 : EvD K ta σ A0 (.tuple (g.map .int))) (h2 : EvD K tb σ A0 (.tuple (f.map .int))) (h3 : EvD K tc σ A0 (.tuple (rs.map eR))) : EvD K (tTup (tCons ta (tCons tb (tCons tc tNil)))) σ A0 (eP ⟨g, f, rs⟩) :=
  ev_tup (ead_cons h1 (ead_cons h2 (ead_cons h3 ead_nil))) (Nat.le_of_ble_eq_true rfl)
/-- t + (e,), e draws an int -/
theorem evs_plus1 {g : List Int} (h : EvD K ta σ A0 (.tuple (g.map .int))) (h2 : EvS s an te σ A0 isInt) (hl : g.length ≤ 1000) : EvS s an (tOp (rPlus K) ta (tTup (tCons te tNil))) σ A0 fun A v => ∃ i : Int, Dp K A v (.tuple ((g ++ [i]).map .int)) :=
  evs_op (P1 := isD K (.tuple (g.map .int))) (P2 := fun A v => ∃ i : Int, Dp K A v (.tuple [.int i])) (evs h) (EvS.imp (evs_tup (Ps := [isInt]) (evsa_cons h2 mon_i evsa_nil) (fun A A' vs e r => by
    obtain ⟨u, rfl, r1⟩ := ps_one r
    exact ⟨r1, trivial⟩) (fun A vs r => by
    obtain ⟨u, rfl, r1⟩ := ps_one r
    show 1 ≤ 1000
    decide)) fun A v _ p => by
    obtain ⟨a, vs, rfl, ha, r⟩ := p
    obtain ⟨u, rfl, ⟨i, rfl⟩⟩ := ps_one r
    exact ⟨i, .tup (SqT.of ha) (.cons (.int _) .nil)⟩) mon_d fun A u v e p1 p2 => by
    obtain ⟨i, p2⟩ := p2
    exact EvP.imp (ev_cat (xs := g) (ys := [i]) (enc := .int) (ev_var rfl p1) (ev_var rfl p2) (by show g.length + 1 ≤ _; omega)) fun A v _ p => ⟨i, p⟩
end
section
variable {P : Program} {w : World} {K : PySem.W.Frag} {mg : Str → Option Value} {base : Heap} {CR CC : Addr}
theorem ok_l_spoilt (Bm : Bl mg) (T : Txt K CR CC) (O_l_next : OkF P w K mg base 1 "_law_next" ["_law_state_here", "_law_many"] (sp_l_next K CR CC)) (O_l_row : OkF P w K mg base 3 "_law_row" ["_law_letters_here", "_law_state_here", "_law_many", "_law_others"] (sp_l_row K CR CC)) (F : DefF K mg "_law_spoilt" s_l_spoilt ["_law_letters_here", "_law_state_here", "_law_paper", "_law_many", "_law_others"]) : OkF P w K mg base 4 "_law_spoilt" ["_law_letters_here", "_law_state_here", "_law_paper", "_law_many", "_law_others"] (sp_l_spoilt K CR CC) := by
  refine okF_of F sc_l_spoilt (fun vs H Q E h => ?_) (fun f cdv Ar outer s H vs Q E hr h => ?_)
  · obtain ⟨A, s, an, L, v, pa, n, m, o, rfl, _⟩ := h
    rfl
  · obtain ⟨A0, s, an, L, v, pa, n, m, o, rfl, hx, Z0, N, lok, hv, pk, hn, hm0, hm1, ho0, ho1, kk⟩ := h
    have hu := hu_of hr
    refine ⟨_, (pss_cons (ps_asg (pv 2) (gtup_K K (n := 3) rfl (pgs_cons (pg_name (i := 5) sc_l_spoilt.nd rfl (by first | exact Or.inl rfl | exact Or.inr rfl)) (pgs_cons (pg_name (i := 6) sc_l_spoilt.nd rfl (by first | exact Or.inl rfl | exact Or.inr rfl)) (pgs_cons (pg_name (i := 7) sc_l_spoilt.nd rfl (by first | exact Or.inl rfl | exact Or.inr rfl)) pgs_nil)))))
      (pss_cons (ps_set (i := 8) sc_l_spoilt.nd rfl (Or.inl rfl) (pe_F O_l_next (hr.mono (by decide)) rfl (pa_cons (pv 1) (pa_cons pe_int pa_nil))))
      (pss_cons (ps_set (i := 9) sc_l_spoilt.nd rfl (Or.inl rfl) (pe_F O_l_next (hr.mono (by decide)) rfl (pa_cons (pv 1) (pa_cons (pe_op (plus_K K) (b_len K rfl Bm.m_len (pa_cons (pv 7) pa_nil)) pe_int) pa_nil))))
      (pss_cons (ps_set (i := 10) sc_l_spoilt.nd rfl (Or.inl rfl) (pe_F O_l_row (hr.mono (by decide)) rfl (pa_cons (pv 0) (pa_cons (pv 1) (pa_cons (pv 3) (pa_cons (pv 4) pa_nil))))))
      (pss_cons (ps_if (pt_cmpR (eq_K K hr) (pv 8) pe_int (nomark _)) (pss_one (ps_ret (pe_tup (pa_cons (pv 5) (pa_cons (pv 6) (pa_cons (pe_op (plus_K K) (pe_slice (sl_K K) (pv 7) po_none (po_some (pv 9))) (pe_slice (sl_K K) (pv 7) (po_some (pe_op (plus_K K) (pv 9) pe_int)) po_none)) pa_nil)))))) pss_nil)
      (pss_cons (ps_if (pt_cmpR (eq_K K hr) (pv 8) pe_int (nomark _)) (pss_one (ps_ret (pe_tup (pa_cons (pv 5) (pa_cons (pv 6) (pa_cons (pe_op (plus_K K) (pe_op (plus_K K) (pe_slice (sl_K K) (pv 7) po_none (po_some (pv 9))) (pe_tup (pa_cons (pv 10) pa_nil))) (pe_slice (sl_K K) (pv 7) (po_some (pv 9)) po_none)) pa_nil)))))) pss_nil)
      (pss_cons (ps_if (pt_cmpR (eq_K K hr) (pv 8) pe_int (nomark _)) (pss_one (ps_ret (pe_tup (pa_cons (pv 5) (pa_cons (pv 6) (pa_cons (pe_op (plus_K K) (pe_op (plus_K K) (pe_slice (sl_K K) (pv 7) po_none (po_some (pv 9))) (pe_tup (pa_cons (pv 10) pa_nil))) (pe_slice (sl_K K) (pv 7) (po_some (pe_op (plus_K K) (pv 9) pe_int)) po_none)) pa_nil)))))) pss_nil)
      (pss_cons (ps_if (pt_cmpR (eq_K K hr) (pv 8) pe_int (nomark _)) (pss_one (ps_ret (pe_tup (pa_cons (pe_op (plus_K K) (pv 5) (pe_tup (pa_cons (pe_F O_l_next (hr.mono (by decide)) rfl (pa_cons (pv 1) (pa_cons (pv 3) pa_nil))) pa_nil))) (pa_cons (pe_op (plus_K K) (pv 6) (pe_tup (pa_cons (pe_F O_l_next (hr.mono (by decide)) rfl (pa_cons (pv 1) (pa_cons (pv 4) pa_nil))) pa_nil))) (pa_cons (pv 7) pa_nil)))))) pss_nil)
      (pss_cons (ps_if (pt_cmpR (eq_K K hr) (pv 8) pe_int (nomark _)) (pss_one (ps_ret (pe_tup (pa_cons (pe_tupRg rfl rfl Bm.m_tuple (prg_1 rfl Bm.m_range (pv 3))) (pa_cons (pe_tupRg rfl rfl Bm.m_tuple (prg_1 rfl Bm.m_range (pv 4))) (pa_cons (pv 7) pa_nil)))))) pss_nil)
      (pss_cons (ps_if (pt_cmpR (eq_K K hr) (pv 8) pe_int (nomark _)) (pss_one (ps_ret (pe_tup (pa_cons (pe_tup pa_nil) (pa_cons (pe_tup pa_nil) (pa_cons (pe_op (plus_K K) (pv 7) (pe_tup (pa_cons (pv 10) pa_nil))) pa_nil)))))) pss_nil)
      (pss_cons (ps_if (pt_cmpR (eq_K K hr) (pv 8) pe_int (nomark _)) (pss_one (ps_ret (pe_tup (pa_cons (pe_op (plus_K K) (pv 5) (pe_tup (pa_cons (pv 3) (pa_cons (pe_un un_neg pe_int) pa_nil)))) (pa_cons (pv 6) (pa_cons (pv 7) pa_nil)))))) pss_nil)
      (pss_one (ps_ret (pe_tup (pa_cons (pv 5) (pa_cons (pe_op (plus_K K) (pv 6) (pe_tup (pa_cons (pe_ix (ix_K K) (pe_lst (pa_cons (pv 4) (pa_cons (pe_un un_neg pe_int) pa_nil))) (pe_F O_l_next (hr.mono (by decide)) rfl (pa_cons (pv 1) (pa_cons pe_int pa_nil))) (fun _ _ => rfl)) pa_nil))) (pa_cons (pv 7) pa_nil))))))))))))))))), ?_⟩
    obtain ⟨g, f', rows⟩ := pa
    have S0 : Tot (fun a => a = s) A0 H A0 H := .refl hx
    have bg : g.length ≤ 4 + 2 * n := pk.g
    have bf : f'.length ≤ 4 + 2 * n := pk.f
    have br : rows.length ≤ 100 + n := pk.r
    have bt : ∀ r ∈ rows, RT L r := pk.t
    refine s_unp (K := K) S0 (ds := [.tuple (g.map .int), .tuple (f'.map .int), .tuple (rows.map eR)]) (ev_var rfl hv) rfl fun vs A1 B1 s1 S1 p1 => ?_
    have Z1 := Z0.go s1
    have N1 := N.mono s1.kn
    obtain ⟨v5, v6, v7, rfl, d5, d6, d7⟩ := da_three p1
    refine ⟨v5, [v6, v7], rfl, v6, [v7], rfl, v7, [], rfl, rfl, ?_⟩
    walk_at "nx"
    refine z_asg S1 Z1 (evs_next (CR := CR) (CC := CC) (m := 8) N1 rfl (by walk_at "ev") (by decide) (by decide)) fun v A2 B2 s2 S2 Z2 p2 => ?_
    obtain ⟨kd, hkd, rfl⟩ := p2
    have N2 := N1.mono s2.kn
    have d7' := dp_mono s2.kn d7
    walk_at "nx"
    refine z_asg S2 Z2 (evs_next (CR := CR) (CC := CC) (m := rows.length + 1) N2 rfl (ev_is (ev_addI (i := (rows.length : Nat)) (j := 1) (ev_is (ev_len (d := .tuple (rows.map eR)) (ev_var rfl d7') rfl) (by rw [List.length_map])) (by walk_at "ev")) rfl) (by omega) (by omega)) fun v A3 B3 s3 S3 Z3 p3 => ?_
    obtain ⟨q, hq, rfl⟩ := p3
    have N3 := N2.mono s3.kn
    walk_at "nx"
    have hrow : EvS s an (tCall (sp_l_row K CR CC) [] E0 (tCons (tVar 0) (tCons (tVar 1) (tCons (tVar 3) (tCons (tVar 4) tNil))))) [some (.str L), some (.ref s), some v, some (.int (m : Nat)), some (.int (o : Nat)), some v5, some v6, some v7, some (.int (kd : Nat)), some (.int (q : Nat)), none] A3 fun A v => ∃ r : PRow, RT L r ∧ Dp K A v (eR r) :=
      evs_call (Ps := [isV (.str L), isV (.ref s), isV (.int (m : Nat)), isV (.int (o : Nat))]) (evsa_cons (evs (by walk_at "ref")) mon_v (evsa_cons (evs (by walk_at "ref")) mon_v (evsa_cons (evs (by walk_at "ref")) mon_v (evsa_cons (evs (by walk_at "ref")) mon_v evsa_nil)))) fun A B vs e f Z r Q k => by
        obtain ⟨u1, u2, u3, u4, rfl, rfl, rfl, rfl, rfl⟩ := ps_four r
        exact ⟨A, s, an, L, m, o, rfl, f, Z, N3.mono e, lok, hm0, by omega, ho0, by omega, k⟩
    refine z_asg S3 Z3 hrow fun v10 A4 B4 s4 S4 Z4 p4 => ?_
    obtain ⟨r, hr, d10⟩ := p4
    have N4 := N3.mono s4.kn
    have hE4 : Ex A1 A4 := (s2.kn.trans s3.kn).trans s4.kn
    have e5 := dp_mono hE4 d5
    have e6 := dp_mono hE4 d6
    have e7 := dp_mono hE4 d7
    have hkind : ∀ (A : Hp) (z : Int), EvST s an (tTest (tOp (rEqA K) (tVar 8) (tC (.int z)))) [some (.str L), some (.ref s), some v, some (.int (m : Nat)), some (.int (o : Nat)), some v5, some v6, some v7, some (.int (kd : Nat)), some (.int (q : Nat)), some v10] A fun _ => True := fun A z => est_eq0 (K := K) (m := 8) (z := z) (evs (EvP.imp (P := isV (.int (kd : Nat))) (by walk_at "ref") fun _ _ _ p => ⟨kd, hkd, p⟩))
    have htk : (rows.take q).length ≤ q := by rw [List.length_take]; omega
    have hsum : (rows.take q).length + (rows.drop q).length = rows.length := by rw [List.length_take, List.length_drop]; omega
    have hsum2 : (rows.drop (q + 1)).length ≤ (rows.drop q).length := by rw [List.length_drop, List.length_drop]; omega
    have hmt : ∀ x ∈ rows.take q, RT L x := fun x h => bt x (List.mem_of_mem_take h)
    have hmd : ∀ k, ∀ x ∈ rows.drop k, RT L x := fun k x h => bt x (List.mem_of_mem_drop h)
    have hone : ∀ x ∈ [r], RT L x := fun x h => by rw [List.mem_singleton] at h; subst h; exact hr
    have happ : ∀ xs ys : List PRow, (∀ x ∈ xs, RT L x) → (∀ x ∈ ys, RT L x) → ∀ x ∈ xs ++ ys, RT L x := fun xs ys h1 h2 x h => (List.mem_append.mp h).elim (h1 x) (h2 x)
    walk_at "nx"
    refine z_if (Pb := fun _ => True) S4 Z4 (hkind A4 0) (fun _ A5 B5 s5 S5 Z5 => ?_) (fun _ A5 B5 s5 S5 Z5 => ?_)
    · refine z_ret S5 Z5 kk (evs (EvP.imp (P := isD K (eP ⟨g, f', rows.take q ++ rows.drop (q + 1)⟩)) (ev_pap (by walk_at "ev") (by walk_at "ev") (ev_cat (xs := rows.take q) (ys := rows.drop (q + 1)) (ev_to (q := q) (by walk_at "ev") (by walk_at "ev")) (ev_from (q := q + 1) (by walk_at "ev") (ev_is (ev_addI (i := (q : Nat)) (j := 1) (by walk_at "ev") (by walk_at "ev")) rfl)) (by omega))) fun A v _ p => ⟨_, ⟨by show g.length ≤ _; omega, by show f'.length ≤ _; omega, by show (_ ++ _ : List PRow).length ≤ _; rw [List.length_append]; omega, happ _ _ hmt (hmd _)⟩, p⟩))
    walk_at "nx"
    refine z_if (Pb := fun _ => True) S5 Z5 (hkind A5 1) (fun _ A6 B6 s6 S6 Z6 => ?_) (fun _ A6 B6 s6 S6 Z6 => ?_)
    · refine z_ret S6 Z6 kk (evs (EvP.imp (P := isD K (eP ⟨g, f', (rows.take q ++ [r]) ++ rows.drop q⟩)) (ev_pap (by walk_at "ev") (by walk_at "ev") (ev_cat (xs := rows.take q ++ [r]) (ys := rows.drop q) (ev_cat (xs := rows.take q) (ys := [r]) (enc := eR) (ev_to (q := q) (by walk_at "ev") (by walk_at "ev")) (ev_tup (ds := [eR r]) (by walk_at "ea") (Nat.le_of_ble_eq_true rfl)) (by simp only [List.length_singleton]; omega)) (ev_from (q := q) (by walk_at "ev") (by walk_at "ev")) (by rw [List.length_append, List.length_singleton]; omega))) fun A v _ p => ⟨_, ⟨by show g.length ≤ _; omega, by show f'.length ≤ _; omega, by show (_ ++ _ : List PRow).length ≤ _; rw [List.length_append, List.length_append, List.length_singleton]; omega, happ _ _ (happ _ _ hmt hone) (hmd _)⟩, p⟩))
    walk_at "nx"
    refine z_if (Pb := fun _ => True) S6 Z6 (hkind A6 2) (fun _ A7 B7 s7 S7 Z7 => ?_) (fun _ A7 B7 s7 S7 Z7 => ?_)
    · refine z_ret S7 Z7 kk (evs (EvP.imp (P := isD K (eP ⟨g, f', (rows.take q ++ [r]) ++ rows.drop (q + 1)⟩)) (ev_pap (by walk_at "ev") (by walk_at "ev") (ev_cat (xs := rows.take q ++ [r]) (ys := rows.drop (q + 1)) (ev_cat (xs := rows.take q) (ys := [r]) (enc := eR) (ev_to (q := q) (by walk_at "ev") (by walk_at "ev")) (ev_tup (ds := [eR r]) (by walk_at "ea") (Nat.le_of_ble_eq_true rfl)) (by simp only [List.length_singleton]; omega)) (ev_from (q := q + 1) (by walk_at "ev") (ev_is (ev_addI (i := (q : Nat)) (j := 1) (by walk_at "ev") (by walk_at "ev")) rfl)) (by rw [List.length_append, List.length_singleton]; omega))) fun A v _ p => ⟨_, ⟨by show g.length ≤ _; omega, by show f'.length ≤ _; omega, by show (_ ++ _ : List PRow).length ≤ _; rw [List.length_append, List.length_append, List.length_singleton]; omega, happ _ _ (happ _ _ hmt hone) (hmd _)⟩, p⟩))
    walk_at "nx"
    refine z_if (Pb := fun _ => True) S7 Z7 (hkind A7 3) (fun _ A8 B8 s8 S8 Z8 => ?_) (fun _ A8 B8 s8 S8 Z8 => ?_)
    · have N8 := N4.mono (((s5.kn.trans s6.kn).trans s7.kn).trans s8.kn)
      refine z_ret S8 Z8 kk (EvS.imp (evs_tup3 (P3 := isD K (.tuple (rows.map eR))) (evs_plus1 (g := g) (by walk_at "ev") (evs_nat (evs_next (CR := CR) (CC := CC) (m := m) N8 rfl (by walk_at "ev") hm0 (by omega))) (by omega)) (evs_plus1 (g := f') (by walk_at "ev") (evs_nat (evs_next (CR := CR) (CC := CC) (m := o) N8 rfl (by walk_at "ev") ho0 (by omega))) (by omega)) (evs (by walk_at "ev")) (fun _ _ _ e ⟨i, h⟩ => ⟨i, dp_mono e h⟩) (fun _ _ _ e ⟨i, h⟩ => ⟨i, dp_mono e h⟩) mon_d) fun A v _ p => ?_)
      obtain ⟨a, u, w, x, rfl, ha, ⟨i, r1⟩, ⟨j, r2⟩, r3⟩ := p
      exact ⟨⟨g ++ [i], f' ++ [j], rows⟩, ⟨by show (_ ++ _ : List Int).length ≤ _; rw [List.length_append, List.length_singleton]; omega, by show (_ ++ _ : List Int).length ≤ _; rw [List.length_append, List.length_singleton]; omega, by show rows.length ≤ _; omega, bt⟩, .tup (SqT.of ha) (.cons r1 (.cons r2 (.cons r3 .nil)))⟩
    have hrg : ∀ k : Nat, k ≤ 4 → (List.range k).map (fun i => PyData.int (i : Nat)) = ((List.range k).map fun i : Nat => (i : Int)).map .int := fun k _ => by rw [List.map_map]; rfl
    walk_at "nx"
    refine z_if (Pb := fun _ => True) S8 Z8 (hkind A8 4) (fun _ A9 B9 s9 S9 Z9 => ?_) (fun _ A9 B9 s9 S9 Z9 => ?_)
    · refine z_ret S9 Z9 kk (evs (EvP.imp (P := isD K (eP ⟨(List.range m).map fun i : Nat => (i : Int), (List.range o).map fun i : Nat => (i : Int), rows⟩)) (ev_pap (ev_is (ev_tupRg (n := m) (by walk_at "ev") (by omega)) (by rw [hrg m (by omega)])) (ev_is (ev_tupRg (n := o) (by walk_at "ev") (by omega)) (by rw [hrg o (by omega)])) (by walk_at "ev")) fun A v _ p => ⟨_, ⟨by show (List.map _ _).length ≤ _; rw [List.length_map, List.length_range]; omega, by show (List.map _ _).length ≤ _; rw [List.length_map, List.length_range]; omega, by show rows.length ≤ _; omega, bt⟩, p⟩))
    walk_at "nx"
    refine z_if (Pb := fun _ => True) S9 Z9 (hkind A9 5) (fun _ A10 B10 s10 S10 Z10 => ?_) (fun _ A10 B10 s10 S10 Z10 => ?_)
    · refine z_ret S10 Z10 kk (evs (EvP.imp (P := isD K (eP ⟨[], [], rows ++ [r]⟩)) (ev_pap (ev_tup (ds := []) ead_nil (Nat.le_of_ble_eq_true rfl)) (ev_tup (ds := []) ead_nil (Nat.le_of_ble_eq_true rfl)) (ev_cat (xs := rows) (ys := [r]) (enc := eR) (by walk_at "ev") (ev_tup (ds := [eR r]) (by walk_at "ea") (Nat.le_of_ble_eq_true rfl)) (by simp only [List.length_singleton]; omega))) fun A v _ p => ⟨_, ⟨Nat.zero_le _, Nat.zero_le _, by show (_ ++ _ : List PRow).length ≤ _; rw [List.length_append, List.length_singleton]; omega, happ _ _ bt hone⟩, p⟩))
    walk_at "nx"
    have hneg : ∀ (σ : L2.St) (A : Hp), EvD K (tUn (rU fun i => .int (-i)) (tC (.int 1))) σ A (.int (-1)) := fun σ A A' B a b Q q => ⟨1, rfl, q _ A' B (.refl b) (.int _)⟩
    refine z_if (Pb := fun _ => True) S10 Z10 (hkind A10 6) (fun _ A11 B11 s11 S11 Z11 => ?_) (fun _ A11 B11 s11 S11 Z11 => ?_)
    · refine z_ret S11 Z11 kk (evs (EvP.imp (P := isD K (eP ⟨g ++ [(m : Int), -1], f', rows⟩)) (ev_pap (ev_cat (xs := g) (ys := [(m : Int), -1]) (enc := .int) (by walk_at "ev") (ev_tup (ds := [.int (m : Nat), .int (-1)]) (ead_cons (by walk_at "ev") (ead_cons (hneg _ _) ead_nil)) (Nat.le_of_ble_eq_true rfl)) (by show g.length + 2 ≤ _; omega)) (by walk_at "ev") (by walk_at "ev")) fun A v _ p => ⟨_, ⟨by show (_ ++ _ : List Int).length ≤ _; rw [List.length_append]; show g.length + 2 ≤ _; omega, by show f'.length ≤ _; omega, by show rows.length ≤ _; omega, bt⟩, p⟩))
    walk_at "nx"
    have hE11 : Ex A4 A11 := ((((s5.kn.trans s6.kn).trans s7.kn).trans (s8.kn.trans s9.kn)).trans s10.kn).trans s11.kn
    have N11 := N4.mono hE11
    have hix : EvS s an (tOp (rIx K) (tLst (tCons (tVar 4) (tCons (tUn (rU fun i => .int (-i)) (tC (.int 1))) tNil))) (tCall (sp_l_next K CR CC) [] E0 (tCons (tVar 1) (tCons (tC (.int 2)) tNil)))) [some (.str L), some (.ref s), some v, some (.int (m : Nat)), some (.int (o : Nat)), some v5, some v6, some v7, some (.int (kd : Nat)), some (.int (q : Nat)), some v10] A11 isInt :=
      evs_op (P1 := isD K (.list [.int (o : Nat), .int (-1)])) (evs (ev_lst (ead_cons (by walk_at "ev") (ead_cons (hneg _ _) ead_nil)) (Nat.le_of_ble_eq_true rfl))) (evs_next (CR := CR) (CC := CC) (m := 2) N11 rfl (by walk_at "ev") (by decide) (by decide)) mon_d fun A u v e p1 p2 => by
        obtain ⟨t, ht, rfl⟩ := p2
        rcases (by omega : t = 0 ∨ t = 1) with rfl | rfl
        · exact EvP.imp (P := isD K (.int (o : Nat))) (ev_ixL (ds := [.int (o : Nat), .int (-1)]) (j := 0) (ev_var rfl p1) (ev_var rfl (.int _)) rfl rfl) fun A v _ p => ⟨_, dp_int p⟩
        · exact EvP.imp (P := isD K (.int (-1))) (ev_ixL (ds := [.int (o : Nat), .int (-1)]) (j := 1) (ev_var rfl p1) (ev_var rfl (.int _)) rfl rfl) fun A v _ p => ⟨_, dp_int p⟩
    refine z_ret S11 Z11 kk (EvS.imp (evs_tup3 (P1 := isD K (.tuple (g.map .int))) (P3 := isD K (.tuple (rows.map eR))) (evs (by walk_at "ev")) (evs_plus1 (g := f') (by walk_at "ev") hix (by omega)) (evs (by walk_at "ev")) mon_d (fun _ _ _ e ⟨i, h⟩ => ⟨i, dp_mono e h⟩) mon_d) fun A v _ p => ?_)
    obtain ⟨a, u, w, x, rfl, ha, r1, ⟨j, r2⟩, r3⟩ := p
    exact ⟨⟨g, f' ++ [j], rows⟩, ⟨by show g.length ≤ _; omega, by show (_ ++ _ : List Int).length ≤ _; rw [List.length_append, List.length_singleton]; omega, by show rows.length ≤ _; omega, bt⟩, .tup (SqT.of ha) (.cons r1 (.cons r2 (.cons r3 .nil)))⟩
end
-- W26
/-- parts whose texts are short -/
structure WfB (b : Nat) (L : Str) (P : Rw) : Prop where
  wf : Wf L P
  lead : P.lead.length ≤ b
  fins : ∀ x, some x ∈ P.fin → x.length ≤ b
  way : ∀ r ∈ P.tab, ∀ t x, some (t, x) ∈ r → x.length ≤ b
def sp_l_bend (K : PySem.W.Frag) (CR CC : Addr) : Sp := fun vs H Q _ => ∃ (A : Hp) (s an : Addr) (L : Str) (v : V) (P : Rw), vs = [.str L, .ref s, v] ∧ Ex A H ∧ SS s an A H ∧ NumA K A an ∧ LOk L ∧ WfB 10 L P ∧ Dp K A v (eParts P) ∧ RetS s an A H Q fun A v => ∃ P' : Rw, Wf L P' ∧ P'.fin.length = P.fin.length ∧ Dp K A v (eParts P')
/-! ### lists that are known, but not longer than this body -/
section
variable {K : PySem.W.Frag} {s an : Addr} {σ : L2.St} {A0 B0 A B : Hp} {M : Addr → Prop} {te ta tb tl' ti : TE} {D : Ends}
theorem fresh_of {l : Addr} {o : HO} (S : Tot M A0 B0 A B) (h0 : A0 l = none) (h1 : A l = some o) : B0 l = none := by
  cases e : B0 l with
  | none => rfl
  | some u =>
    have := S.s.sp l (by rw [e]; simp) h0
    rw [this] at h1
    cases h1
/-- a known list of this body's own gets another content -/
theorem Tot.redo {l : Addr} {o o' : HO} (S : Tot M A0 B0 A B) (h0 : A0 l = none) (h1 : A l = some o) : Tot M A0 B0 (upd A l o') (upd B l o') := by
  have hf := fresh_of S h0 h1
  refine ⟨⟨fun a u h => ?_, fun a u h => ?_, fun a u m h => ?_, fun a h1 h2 => ?_, fun a h => ?_⟩⟩
  · have e : a ≠ l := fun e => by rw [e, h0] at h; cases h
    rw [upd_ne e]
    exact S.s.kn a u h
  · by_cases e : a = l
    · rw [e, upd_same] at h ⊢; exact h
    · rw [upd_ne e] at h ⊢; exact S.s.le a u h
  · have e : a ≠ l := fun e => by rw [e, hf] at h; cases h
    rw [upd_ne e]
    exact S.s.al a u m h
  · have e : a ≠ l := fun e => h1 (by rw [e]; exact hf)
    rw [upd_ne e]
    exact S.s.sp a h1 h2
  · have e : a ≠ l := fun e => h (by rw [e]; exact hf)
    rw [upd_ne e]
    exact S.s.th a h
theorem SS.redo {l : Addr} {o o' : HO} (Z : SS s an A B) (h1 : A l = some o) : SS s an (upd A l o') (upd B l o') := by
  obtain ⟨q1, pl, q2⟩ := Z
  have e : s ≠ l := fun e => by rw [e, h1] at q1; cases q1
  exact ⟨by rw [upd_ne e]; exact q1, pl, by rw [upd_ne e]; exact q2⟩
theorem ixN_nat {n k : Nat} (h : k < n) : ixN n (k : Nat) = some k := by
  unfold ixN
  rw [if_pos (by omega), if_pos (by omega)]
  rfl
/-- x[k] = e, a known list of this body's own -/
theorem z_set {P : Hp → V → Prop} {l : Addr} {us : List V} {k : Nat} (S : Tot (fun a => a = s) A0 B0 A B) (Z : SS s an A B) (h0 : A0 l = none) (h1 : A l = some (.lst us)) (h : EvP te σ A P) (hl : EvP tl' σ A (isV (.ref l))) (hi : EvP ti σ A (isV (.int (k : Nat)))) (hk : k < us.length)
    (kk : ∀ v A' B', Stp A B A' B' → P A' v → Tot (fun a => a = s) A0 B0 (upd A' l (.lst (us.set k v))) (upd B' l (.lst (us.set k v))) → SS s an (upd A' l (.lst (us.set k v))) (upd B' l (.lst (us.set k v))) → D.nx σ (upd B' l (.lst (us.set k v)))) : tAsg te (gSub tl' ti rSetL) D σ B :=
  h A B (Ex.refl _) S.le _ fun v A1 B1 s1 p => hl A1 B1 s1.kn s1.le _ fun u A2 B2 s2 e2 => hi A2 B2 (s1.kn.trans s2.kn) s2.le _ fun w A3 B3 s3 e3 => by
    subst e2 e3
    have s4 : Stp A B A1 B3 := s1.trans (Stp.back (Ex.refl _) (s2.trans s3))
    have hA1 := s1.kn _ _ h1
    have S4 := S.go s4
    have Z4 := Z.go s4
    exact ⟨l, us, k, k, rfl, rfl, S4.le _ _ hA1, ixN_nat hk, kk v A1 B3 s4 p (S4.redo h0 hA1) (Z4.redo hA1)⟩
theorem dp_eW {w : Way} {v : V} {l : Addr} {us : List V} {o : HO} (h : Dp K A v (eW w)) (h1 : A l = some (.lst us)) : Dp K (upd A l o) v (eW w) := by
  cases w with
  | none => rw [dp_non h]; exact .non
  | some tx =>
    obtain ⟨t, x⟩ := tx
    replace h : Dp K A v (.tuple [.int (t : Nat), .str x]) := h
    obtain ⟨a, xs, rfl, hs, pa⟩ := dp_tup h
    obtain ⟨u, w, rfl, p, q⟩ := da_two pa
    rw [dp_int p, dp_str q] at hs
    refine .tup (xs := [.int (t : Nat), .str x]) ?_ (.cons (.int _) (.cons (.str _) .nil))
    rcases hs with hs | hs
    · refine .inl ?_
      rcases hs with hs | ⟨o2, hs⟩
      · have e : a ≠ l := fun e => by rw [e, h1] at hs; cases hs
        exact .inl (by rw [upd_ne e]; exact hs)
      · have e : a ≠ l := fun e => by rw [e, h1] at hs; cases hs
        exact .inr ⟨o2, by rw [upd_ne e]; exact hs⟩
    · exact .inr hs
theorem da_eW {ws : List Way} {l : Addr} {us : List V} {o : HO} (h1 : A l = some (.lst us)) : ∀ {vs : List V}, DpAll K A vs (ws.map eW) → DpAll K (upd A l o) vs (ws.map eW) := by
  induction ws with
  | nil => intro vs h; cases h; exact .nil
  | cons w ws ih =>
    intro vs h
    cases h with
    | cons a b => exact .cons (dp_eW a h1) (ih b)
theorem da_eS {xs : List (Option Str)} {A' : Hp} : ∀ {vs : List V}, DpAll K A vs (xs.map eS) → DpAll K A' vs (xs.map eS) := by
  induction xs with
  | nil => intro vs h; cases h; exact .nil
  | cons w ws ih =>
    intro vs h
    cases h with
    | cons a b =>
      refine .cons ?_ (ih b)
      cases w with
      | none => rw [dp_non a]; exact .non
      | some x => rw [dp_str a]; exact .str _
theorem da_set {v : V} {d : PyData} (hv : Dp K A v d) : ∀ {vs : List V} {ds : List PyData}, DpAll K A vs ds → ∀ i, DpAll K A (vs.set i v) (ds.set i d)
  | _, _, .nil, _ => .nil
  | _, _, .cons _ b, 0 => .cons hv b
  | _, _, .cons a b, i + 1 => .cons a (da_set hv b i)
/-- list(e), told exactly -/
theorem ev_lstF {ds : List PyData} (h : EvD K te σ A0 (.list ds)) : EvP (tCB (rLstOf K) (tCons te tNil)) σ A0 fun A v => ∃ l us, v = .ref l ∧ A0 l = none ∧ A l = some (.lst us) ∧ DpAll K A us ds := fun A B a b Q q =>
  ead_cons h ead_nil A B a b _ fun vs A1 B1 s1 p => by
    obtain ⟨v, rfl, pv⟩ := da_one p
    obtain ⟨c, us, rfl, hs, pa⟩ := dp_lst pv
    exact ⟨c, us, rfl, .inl (ex_l s1.le hs), fun x hx => q _ (upd A1 x (.lst us)) _ (s1.trans (.new s1.le hx)) ⟨x, us, rfl, ex_none (a.trans (s1.kn.trans s1.le)) hx, upd_same, da_mono (StpM.new (M := fun _ => False) s1.le hx).kn pa⟩⟩
/-- [.. for ..], every item a new list -/
theorem evl_lcF {α : Type} {wi : TI} {g : TG} {vs : List Nat} {q : α → List PyData} (xs : List α) (enc : α → PyData) (hs : Src K wi σ A0 (xs.map enc)) (hl : xs.length ≤ 1000000)
    (ht : ∀ a ∈ xs, ∀ x A B, Ex A0 A → Ex A B → Dp K A x (enc a) → ∃ σ2, GEv g (wipe σ vs) B x σ2 ∧ wipe σ2 vs = wipe σ vs ∧ EvP te σ2 A fun A' v => ∃ l us, v = .ref l ∧ A l = none ∧ A' l = some (.lst us) ∧ DpAll K A' us (q a)) :
    EvP (tLc wi g tYes te vs) σ A0 fun A v => ∃ (l : Addr) (rl : List Addr), v = .ref l ∧ A0 l = none ∧ A l = some (.lst (rl.map V.ref)) ∧ rl.length = xs.length ∧ rl.Nodup ∧ ∀ (i : Nat) (lr : Addr) (a : α), rl[i]? = some lr → xs[i]? = some a → A0 lr = none ∧ lr ≠ l ∧ ∃ us, A lr = some (.lst us) ∧ DpAll K A us (q a) := fun A B a b Q k => hs A B a b _ fun J A1 B1 G Y s W hG hY => by
  intro Dl hD
  rw [List.length_map] at W hY
  let Pv : Nat → Hp → Prop := fun i H => ∃ A2, StpM (fun _ => False) A1 B1 A2 H ∧ A2 Dl = none ∧ ∃ rl : List Addr, H Dl = some (.lst (rl.map V.ref)) ∧ rl.length = i ∧ rl.Nodup ∧ ∀ (j : Nat) (lr : Addr) (a : α), rl[j]? = some lr → xs[j]? = some a → A0 lr = none ∧ ∃ us, A2 lr = some (.lst us) ∧ DpAll K A2 us (q a)
  have hD0 : A1 Dl = none := ex_none s.le hD
  refine lc_it W Pv ⟨A1, .newU s.le hD, hD0, [], upd_same, rfl, List.nodup_nil, fun j lr a h => by simp at h⟩ (fun i H _ ⟨A2, S, _⟩ => hG H S.ex0) (fun i x H H' hi ⟨A2, S, n2, rl, hu, hrl, hnd, pu⟩ y => ?_) (fun H ⟨A2, S, n2, rl, hu, hrl, hnd, pu⟩ => ?_)
  · obtain ⟨A3, s3, d, hd, px⟩ := hY i H x H' A2 hi y S.kn S.le
    rw [List.getElem?_map, List.getElem?_eq_getElem hi] at hd
    cases hd
    have S3 := S.go s3
    have n3 : A3 Dl = none := s3.sp Dl (by rw [hu]; simp) n2
    have h3 : H' Dl = some (.lst (rl.map V.ref)) := s3.al _ _ (fun z => z) hu
    have hA03 : Ex A0 A3 := (a.trans s.kn).trans S3.kn
    obtain ⟨σ2, hg, hw, hE⟩ := ht xs[i] (List.getElem_mem hi) x A3 H' hA03 S3.le px
    refine hg _ ⟨hw, ?_⟩
    unfold tYes
    dsimp only
    rw [if_pos rfl]
    refine hE A3 H' (Ex.refl _) S3.le _ fun v A5 B5 s5 p5 => ?_
    obtain ⟨lr, us, rfl, hn, hlr, hus⟩ := p5
    have S5 := S3.go s5
    have n5 : A5 Dl = none := s5.sp Dl (by rw [h3]; simp) n3
    have h5 : B5 Dl = some (.lst (rl.map V.ref)) := s5.al _ _ (fun z => z) h3
    have hex : Ex A2 A5 := s3.kn.trans s5.kn
    refine ⟨_, h5, by rw [List.length_map, hrl]; exact Nat.lt_of_lt_of_le (Nat.lt_of_lt_of_le hi hl) (by decide), A5, S5.mut (.inl hD) n5, n5, rl ++ [lr], by rw [List.map_append]; exact upd_same, by rw [List.length_append, hrl]; rfl, ?_, ?_⟩
    · rw [List.nodup_append]
      refine ⟨hnd, by simp, fun c hc d hd e => ?_⟩
      rw [List.mem_singleton] at hd
      subst hd e
      obtain ⟨j, hj⟩ := List.getElem?_of_mem hc
      have hjl := (List.getElem?_eq_some_iff.mp hj).1
      obtain ⟨_, us2, h6, _⟩ := pu j c xs[j] hj (List.getElem?_eq_getElem (by omega))
      rw [s3.kn _ _ h6] at hn
      cases hn
    · intro j lr2 a2 hj ha2
      by_cases hjl : j < rl.length
      · rw [List.getElem?_append_left hjl] at hj
        obtain ⟨h7, us2, h8, h9⟩ := pu j lr2 a2 hj ha2
        exact ⟨h7, us2, hex _ _ h8, da_mono hex h9⟩
      · rw [List.getElem?_append_right (by omega)] at hj
        have e : j = i := by
          cases e2 : j - rl.length with
          | zero => omega
          | succ n => rw [e2] at hj; simp at hj
        subst e
        rw [hrl, Nat.sub_self] at hj
        cases hj
        rw [List.getElem?_eq_getElem hi] at ha2
        cases ha2
        exact ⟨ex_none hA03 hn, us, hlr, hus⟩
  · have S' := S.frz hD n2 hu
    refine k _ _ H (s.trans S') ⟨Dl, rl, rfl, ?_, upd_same, hrl, hnd, fun i lr a2 h1 h2 => ?_⟩
    · exact ex_none (a.trans s.kn) hD0
    · obtain ⟨h7, us2, h8, h9⟩ := pu i lr a2 h1 h2
      have e : lr ≠ Dl := fun e => by rw [e, n2] at h8; cases h8
      exact ⟨h7, e, us2, by rw [upd_ne e]; exact h8, da_mono (Ex.new n2) h9⟩
end
-- W27
/-- finals and table as lists of this body's own -/
structure BT (K : PySem.W.Frag) (A0 A : Hp) (l4 l5 : Addr) (fin : List (Option Str)) (tab : List (List Way)) : Prop where
  f0 : A0 l4 = none
  fin : ∃ us, A l4 = some (.lst us) ∧ DpAll K A us (fin.map eS)
  tab : ∃ rl : List Addr, A l5 = some (.lst (rl.map V.ref)) ∧ rl.length = tab.length ∧ rl.Nodup ∧ ∀ (i : Nat) (lr : Addr) (r : List Way), rl[i]? = some lr → tab[i]? = some r → A0 lr = none ∧ lr ≠ l4 ∧ lr ≠ l5 ∧ ∃ us, A lr = some (.lst us) ∧ DpAll K A us (r.map eW)
  ne : l4 ≠ l5
section
variable {K : PySem.W.Frag} {A0 A A' : Hp} {l4 l5 : Addr} {fin : List (Option Str)} {tab : List (List Way)}
theorem BT.mono (e : Ex A A') (h : BT K A0 A l4 l5 fin tab) : BT K A0 A' l4 l5 fin tab := by
  obtain ⟨h1, ⟨us, h2, h3⟩, ⟨rl, h4, h5, h6, h7⟩, h8⟩ := h
  exact ⟨h1, ⟨us, e _ _ h2, da_mono e h3⟩, ⟨rl, e _ _ h4, h5, h6, fun i lr r a b => by
    obtain ⟨q1, q2, q3, us2, q4, q5⟩ := h7 i lr r a b
    exact ⟨q1, q2, q3, us2, e _ _ q4, da_mono e q5⟩⟩, h8⟩
theorem BT.dfin (h : BT K A0 A l4 l5 fin tab) : Dp K A (.ref l4) (.list (fin.map eS)) := by
  obtain ⟨us, h2, h3⟩ := h.fin
  exact .lst (SqL.of h2) h3
theorem BT.dtab (h : BT K A0 A l4 l5 fin tab) : Dp K A (.ref l5) (.list (tab.map eRL)) := by
  obtain ⟨rl, h4, h5, h6, h7⟩ := h.tab
  refine .lst (SqL.of h4) (da_of (by rw [List.length_map, List.length_map]; exact h5) fun i v d a b => ?_)
  rw [List.getElem?_map] at a b
  cases e1 : rl[i]? with
  | none => rw [e1] at a; cases a
  | some lr =>
    cases e2 : tab[i]? with
    | none => rw [e2] at b; cases b
    | some r =>
      rw [e1] at a
      rw [e2] at b
      cases a
      cases b
      obtain ⟨q1, q2, q3, us2, q4, q5⟩ := h7 i lr r e1 e2
      exact .lst (SqL.of q4) q5
/-- finals[k] = o -/
theorem BT.putF {us : List V} {k : Nat} {v : V} {o : Option Str} (h : BT K A0 A l4 l5 fin tab) (hu : A l4 = some (.lst us)) (hv : Dp K A v (eS o)) : BT K A0 (upd A l4 (.lst (us.set k v))) l4 l5 (fin.set k o) tab := by
  obtain ⟨h1, ⟨us', h2, h3⟩, ⟨rl, h4, h5, h6, h7⟩, h8⟩ := h
  rw [hu] at h2
  cases h2
  refine ⟨h1, ⟨_, upd_same, ?_⟩, ⟨rl, by rw [upd_ne h8.symm]; exact h4, h5, h6, fun i lr r a b => ?_⟩, h8⟩
  · rw [List.map_set]
    have := da_set hv h3 k
    rw [← List.map_set] at this ⊢
    exact da_eS this
  · obtain ⟨q1, q2, q3, us2, q4, q5⟩ := h7 i lr r a b
    exact ⟨q1, q2, q3, us2, by rw [upd_ne q2]; exact q4, da_eW hu q5⟩
/-- table[i][k] = w -/
theorem BT.putW {rl : List Addr} {us : List V} {i k : Nat} {lr : Addr} {r : List Way} {v : V} {w : Way} (h : BT K A0 A l4 l5 fin tab) (hrl : A l5 = some (.lst (rl.map V.ref))) (hi : rl[i]? = some lr) (hr : tab[i]? = some r) (hu : A lr = some (.lst us)) (hv : Dp K A v (eW w)) : BT K A0 (upd A lr (.lst (us.set k v))) l4 l5 fin (tab.set i (r.set k w)) := by
  obtain ⟨h1, ⟨us4, h2, h3⟩, ⟨rl', h4, h5, h6, h7⟩, h8⟩ := h
  rw [hrl] at h4
  have hrr : rl' = rl := by
    injection h4 with h4
    injection h4 with h4
    exact (List.map_inj_right (fun a b h => by cases h; rfl)).mp h4.symm
  subst hrr
  obtain ⟨p1, p2, p3, us1, p4, p5⟩ := h7 i lr r hi hr
  rw [hu] at p4
  cases p4
  refine ⟨h1, ⟨us4, by rw [upd_ne p2.symm]; exact h2, da_eS h3⟩, ⟨rl', by rw [upd_ne p3.symm]; exact hrl, by rw [List.length_set]; exact h5, h6, fun j lj rj a b => ?_⟩, h8⟩
  by_cases e : j = i
  · subst e
    rw [hi] at a
    cases a
    have hlt := (List.getElem?_eq_some_iff.mp hr).1
    rw [List.getElem?_set_self hlt] at b
    cases b
    refine ⟨p1, p2, p3, _, upd_same, ?_⟩
    have := da_set hv p5 k
    rw [← List.map_set] at this
    exact da_eW hu this
  · rw [List.getElem?_set_ne (Ne.symm e)] at b
    obtain ⟨q1, q2, q3, us2, q4, q5⟩ := h7 j lj rj a b
    have hne : lj ≠ lr := fun e2 => by
      subst e2
      exact e (nd_ix h6 a hi)
    exact ⟨q1, q2, q3, us2, by rw [upd_ne hne]; exact q4, da_eW hu q5⟩
end
theorem mem_set_of {α : Type} {xs : List α} {i : Nat} {a b : α} (h : b ∈ xs.set i a) : b = a ∨ b ∈ xs := by
  rcases List.mem_or_eq_of_mem_set h with h | h
  · exact .inr h
  · exact .inl h
section
variable {P : Program} {w : World} {K : PySem.W.Frag} {mg : Str → Option Value} {base : Heap} {CR CC : Addr}
theorem ok_l_bend (Bm : Bl mg) (T : Txt K CR CC) (O_l_next : OkF P w K mg base 1 "_law_next" ["_law_state_here", "_law_many"] (sp_l_next K CR CC)) (F : DefF K mg "_law_bend" s_l_bend ["_law_letters_here", "_law_state_here", "_law_parts"]) : OkF P w K mg base 2 "_law_bend" ["_law_letters_here", "_law_state_here", "_law_parts"] (sp_l_bend K CR CC) := by
  refine okF_of F sc_l_bend (fun vs H Q E h => ?_) (fun f cdv Ar outer s H vs Q E hr h => ?_)
  · obtain ⟨A, s, an, L, v, P, rfl, _⟩ := h
    rfl
  · obtain ⟨A0, s, an, L, v, P, rfl, hx, Z0, N, lok, wb, hv0, kk⟩ := h
    have hu := hu_of hr
    refine ⟨_, (pss_cons (ps_par3 (i := 3) (j := 4) (k := 5) rfl sc_l_bend.nd rfl rfl rfl (by decide) (by decide) (by decide) rfl rfl rfl (pa_cons (pe_ix (ix_K K) (pv 2) pe_int (fun _ _ => rfl)) (pa_cons (b_list K rfl Bm.m_list (pa_cons (pe_ix (ix_K K) (pv 2) pe_int (fun _ _ => rfl)) pa_nil)) (pa_cons (pe_lc (own := [("_law_row_here", 9)]) rfl sc_l_bend.nd (list_K K (pe_ix (ix_K K) (pv 2) pe_int (fun _ _ => rfl))) (blkOk_by (N := N_l_bend) (sc := defScope s_l_bend) (by decide +kernel)) (fun _ _ _ _ _ => (pg_name (i := 9) sc_l_bend.nd rfl (by first | exact Or.inl rfl | exact Or.inr rfl))) (fun _ _ _ _ _ => pts_nil) (fun _ _ _ _ _ => (b_list K rfl Bm.m_list (pa_cons (pv 9) pa_nil)))) pa_nil))) (by rfl))
      (pss_cons (ps_set (i := 6) sc_l_bend.nd rfl (Or.inl rfl) (pe_F O_l_next (hr.mono (by decide)) rfl (pa_cons (pv 1) (pa_cons pe_int pa_nil))))
      (pss_cons (ps_set (i := 7) sc_l_bend.nd rfl (Or.inl rfl) (pe_F O_l_next (hr.mono (by decide)) rfl (pa_cons (pv 1) (pa_cons (b_len K rfl Bm.m_len (pa_cons (pv 4) pa_nil)) pa_nil))))
      (pss_cons (ps_set (i := 8) sc_l_bend.nd rfl (Or.inl rfl) (pe_F O_l_next (hr.mono (by decide)) rfl (pa_cons (pv 1) (pa_cons (b_len K rfl Bm.m_len (pa_cons (pv 0) pa_nil)) pa_nil))))
      (pss_cons (ps_if (pt_cmpR (eq_K K hr) (pv 6) pe_int (nomark _)) (pss_one (ps_asg (pe_ifExp (pt_cmpR notN_R (pe_ix (ix_K K) (pv 4) (pv 7) (fun _ _ => rfl)) pe_non (nomark _)) pe_non pe_str) (pg_sub (pv 4) (pv 7) set_list))) (pss_one (ps_if (pt_cmpR (eq_K K hr) (pv 6) pe_int (nomark _)) (pss_one (ps_asg (pe_op (plus_K K) (pe_ix (ix_K K) (pv 0) (pv 8) (fun _ _ => rfl)) (or_K K (pe_ix (ix_K K) (pv 4) (pv 7) (fun _ _ => rfl)) (pe_one pe_str))) (pg_sub (pv 4) (pv 7) set_list))) (pss_one (ps_if (PW.pt (pw_and (pt_cmpR (eq_K K hr) (pv 6) pe_int (nomark _)) (pw_and1 (pt_cmpR notN_R (pe_ix (ix_K K) (pe_ix (ix_K K) (pv 5) (pv 7) (fun _ _ => rfl)) (pv 8) (fun _ _ => rfl)) pe_non (nomark _))))) (pss_one (ps_asg (pe_tup (pa_cons (pe_ix (ix_K K) (pe_ix (ix_K K) (pe_ix (ix_K K) (pv 5) (pv 7) (fun _ _ => rfl)) (pv 8) (fun _ _ => rfl)) pe_int (fun _ _ => rfl)) (pa_cons (pe_op (plus_K K) (pe_ix (ix_K K) (pe_ix (ix_K K) (pe_ix (ix_K K) (pv 5) (pv 7) (fun _ _ => rfl)) (pv 8) (fun _ _ => rfl)) pe_int (fun _ _ => rfl)) (pe_ix (ix_K K) (pv 0) pe_int (fun _ _ => rfl))) pa_nil))) (pg_sub (pe_ix (ix_K K) (pv 5) (pv 7) (fun _ _ => rfl)) (pv 8) set_list))) (pss_one (ps_if (pt_cmpR (eq_K K hr) (pv 6) pe_int (nomark _)) (pss_one (ps_asg (pe_ifExp (pt_cmpR notN_R (pe_ix (ix_K K) (pe_ix (ix_K K) (pv 5) (pv 7) (fun _ _ => rfl)) (pv 8) (fun _ _ => rfl)) pe_non (nomark _)) pe_non (pe_tup (pa_cons pe_int (pa_cons pe_str pa_nil)))) (pg_sub (pe_ix (ix_K K) (pv 5) (pv 7) (fun _ _ => rfl)) (pv 8) set_list))) (pss_one (ps_set (i := 3) sc_l_bend.nd rfl (Or.inl rfl) (pe_op (plus_K K) (pv 3) (pe_ix (ix_K K) (pv 0) (pv 8) (fun _ _ => rfl))))))))))))
      (pss_one (ps_ret (pe_tup (pa_cons (pv 3) (pa_cons (pv 4) (pa_cons (pv 5) pa_nil))))))))))), ?_⟩
    have S0 : Tot (fun a => a = s) A0 H A0 H := .refl hx
    have l1 := lok.pos
    have l2 := lok.two
    have wf := wb.wf
    have hv : Dp K A0 v (.tuple [.str P.lead, .list (P.fin.map eS), .list (P.tab.map eRL)]) := hv0
    have npos := wf.pos
    have nmax := wf.max
    have nlen := wf.len
    have hpt : ∀ (σ : L2.St) (A : Hp), σ[2]? = some (some v) → Ex A0 A → EvD K (tOp (rIx K) (tVar 2) (tC (.int 0))) σ A (.str P.lead) ∧ EvD K (tOp (rIx K) (tVar 2) (tC (.int 1))) σ A (.list (P.fin.map eS)) ∧ EvD K (tOp (rIx K) (tVar 2) (tC (.int 2))) σ A (.list (P.tab.map eRL)) := fun σ A h e =>
      ⟨ev_ixT (ds := [.str P.lead, .list (P.fin.map eS), .list (P.tab.map eRL)]) (j := 0) (ev_var h (dp_mono e hv)) (by walk_at "ev") rfl rfl, ev_ixT (ds := [.str P.lead, .list (P.fin.map eS), .list (P.tab.map eRL)]) (j := 1) (ev_var h (dp_mono e hv)) (by walk_at "ev") rfl rfl, ev_ixT (ds := [.str P.lead, .list (P.fin.map eS), .list (P.tab.map eRL)]) (j := 2) (ev_var h (dp_mono e hv)) (by walk_at "ev") rfl rfl⟩
    let σ0 : L2.St := [some (.str L), some (.ref s), some v, none, none, none, none, none, none, none]
    -- the three parts
    refine (hpt σ0 A0 rfl (Ex.refl _)).1 A0 H (Ex.refl _) hx _ fun v3 A1 B1 s1 p1 => ?_
    have ev := dp_str p1
    subst ev
    refine ev_lstF (hpt σ0 A0 rfl (Ex.refl _)).2.1 A1 B1 s1.kn s1.le _ fun v4 A2 B2 s2 p2 => ?_
    obtain ⟨l4, us4, rfl, h40, h4, d4⟩ := p2
    have hE2 := s1.kn.trans s2.kn
    refine evl_lcF (K := K) (q := fun r : List Way => r.map eW) P.tab eRL (src_list (hpt σ0 A2 rfl hE2).2.2) (by omega) (fun r hr x A B e f px => ⟨_, g_name, rfl, ev_lstF (ev_var rfl px)⟩) A2 B2 (Ex.refl _) s2.le _ fun v5 A3 B3 s3 p3 => ?_
    obtain ⟨l5, rl, rfl, h50, h5, hrl, hnd, hrows⟩ := p3
    refine ⟨_, _, _, rfl, ?_⟩
    have S3 := S0.go ((s1.trans s2).trans s3)
    have Z3 := Z0.go ((s1.trans s2).trans s3)
    have N3 := N.mono (hE2.trans s3.kn)
    have b3 : BT K A0 A3 l4 l5 P.fin P.tab := ⟨h40, ⟨us4, s3.kn _ _ h4, da_mono s3.kn d4⟩, ⟨rl, h5, hrl, hnd, fun i lr r a b => by
      obtain ⟨q1, q2, us, q3, q4⟩ := hrows i lr r a b
      exact ⟨ex_none hE2 q1, (fun e => by rw [e, h4] at q1; cases q1), q2, us, q3, q4⟩⟩, (fun e => by rw [← e, h4] at h50; cases h50)⟩
    walk_at "nx"
    refine z_asg S3 Z3 (evs_next (CR := CR) (CC := CC) (m := 5) N3 rfl (by walk_at "ev") (by decide) (by decide)) fun vv A4 B4 s4 S4 Z4 p4 => ?_
    obtain ⟨kd, hkd, rfl⟩ := p4
    have N4 := N3.mono s4.kn
    have b4 := b3.mono s4.kn
    walk_at "nx"
    refine z_asg S4 Z4 (evs_next (CR := CR) (CC := CC) (m := P.fin.length) N4 rfl (ev_is (ev_len (d := .list (P.fin.map eS)) (ev_var rfl b4.dfin) rfl) (by rw [List.length_map])) (by omega) (by omega)) fun vv A5 B5 s5 S5 Z5 p5 => ?_
    obtain ⟨at', hat, rfl⟩ := p5
    have N5 := N4.mono s5.kn
    have b5 := b4.mono s5.kn
    walk_at "nx"
    refine z_asg S5 Z5 (evs_next (CR := CR) (CC := CC) (m := L.length) N5 rfl (ev_len (d := .str L) (by walk_at "ev") (if_pos (by omega))) (by omega) (by omega)) fun vv A6 B6 s6 S6 Z6 p6 => ?_
    obtain ⟨pl, hpl, rfl⟩ := p6
    have b6 := b5.mono s6.kn
    walk_at "nx"
    let σ6 : L2.St := [some (.str L), some (.ref s), some v, some (.str P.lead), some (.ref l4), some (.ref l5), some (.int (kd : Nat)), some (.int (at' : Nat)), some (.int (pl : Nat)), none]
    have hkind : ∀ (A : Hp) (z : Int), EvT K (tTest (tOp (rEqA K) (tVar 6) (tC (.int z)))) σ6 A (decide ((kd : Int) = z)) := fun A z => et_test (ev_eqS (x := .int (kd : Nat)) (ev_var rfl (.int _)) (by walk_at "ev") rfl)
    -- what is read
    obtain ⟨us4', hu4, du4⟩ := b6.fin
    have hul : us4'.length = P.fin.length := by rw [da_len du4, List.length_map]
    have hfat : P.fin[at']? = some (finAt P (at' : Nat)) := wf.finAt (s := (at' : Int)) (by omega) (by omega)
    have hfin : ∀ A, Ex A6 A → EvD K (tOp (rIx K) (tVar 4) (tVar 7)) σ6 A (eS (finAt P (at' : Nat))) := fun A e => ev_ixL (ds := P.fin.map eS) (j := at') (ev_var rfl (dp_mono e b6.dfin)) (ev_var rfl (.int _)) rfl (at_map hfat)
    have hfx : ∀ x, finAt P (at' : Nat) = some x → x.length ≤ 10 ∧ Tx L x := fun x h => ⟨wb.fins x (List.mem_of_getElem? (hfat.trans (by rw [h]))), wf.finTx h⟩
    obtain ⟨r, hr1, hr2⟩ := wf.tabAt (s := (at' : Int)) (by omega) (by omega)
    have hr1 : P.tab[at']? = some r := hr1
    have hwat : r[pl]? = some (wayAt P (at' : Nat) pl) := wf.wayIs (s := (at' : Int)) hr1 (by omega)
    have hrowD : ∀ A, Ex A6 A → EvD K (tOp (rIx K) (tVar 5) (tVar 7)) σ6 A (eRL r) := fun A e => ev_ixL (ds := P.tab.map eRL) (j := at') (ev_var rfl (dp_mono e b6.dtab)) (ev_var rfl (.int _)) rfl (at_map hr1)
    have hway : ∀ A, Ex A6 A → EvD K (tOp (rIx K) (tOp (rIx K) (tVar 5) (tVar 7)) (tVar 8)) σ6 A (eW (wayAt P (at' : Nat) pl)) := fun A e => ev_ixL (ds := r.map eW) (j := pl) (hrowD A e) (ev_var rfl (.int _)) rfl (at_map hwat)
    have hwx : ∀ t x, wayAt P (at' : Nat) pl = some (t, x) → t < P.fin.length ∧ x.length ≤ 10 ∧ Tx L x := fun t x h => ⟨(wf.wayTx h).1, wb.way r (List.mem_of_getElem? hr1) t x (List.mem_of_getElem? (hwat.trans (by rw [h]))), (wf.wayTx h).2⟩
    obtain ⟨c, hc0, hc⟩ := tl_head l1
    have hplt : pl < (tl L).length := by rw [tl_len]; exact hpl
    have hdm : (tl L)[pl] ∈ tl L := List.getElem_mem hplt
    have hL0 : ∀ (A : Hp), EvD K (tOp (rIx K) (tVar 0) (tC (.int 0))) σ6 A (.str ⟨#[c]⟩) := fun A => ev_ixS (ev_var rfl (.str _)) (by walk_at "ev") (by omega) (atI_nat (j := 0) hc0)
    have hLp : ∀ (A : Hp), EvD K (tOp (rIx K) (tVar 0) (tVar 8)) σ6 A (.str ⟨#[(tl L)[pl]]⟩) := fun A => ev_ixS (ev_var rfl (.str _)) (ev_var rfl (.int _)) (by omega) (atI_nat (List.getElem?_eq_getElem hplt))
    generalize (tl L)[pl] = dch at *
    have len1 : ∀ c : Nat, (⟨#[c]⟩ : Str).length = 1 := fun _ => rfl
    -- the last line
    have fin3 : ∀ (ld : Str) (σ : L2.St) (fin' : List (Option Str)) (tab' : List (List Way)) (A B : Hp), σ[3]? = some (some (.str ld)) → σ[4]? = some (some (.ref l4)) → σ[5]? = some (some (.ref l5)) → Tot (fun a => a = s) A0 H A B → SS s an A B → BT K A0 A l4 l5 fin' tab' → Wf L ⟨ld, fin', tab'⟩ → fin'.length = P.fin.length →
        (tRet (tTup (tCons (tVar 3) (tCons (tVar 4) (tCons (tVar 5) tNil))))) { nx := fun _ H' => Q .non H', rt := Q } σ B := fun ld σ fin' tab' A B h3 h4 h5 S Z b w hl =>
      z_ret S Z kk (evs (EvP.imp (P := isD K (eParts ⟨ld, fin', tab'⟩)) (ev_tup (ead_cons (ev_var h3 (.str _)) (ead_cons (ev_var h4 b.dfin) (ead_cons (ev_var h5 b.dtab) ead_nil))) (Nat.le_of_ble_eq_true rfl)) fun A v _ p => ⟨⟨ld, fin', tab'⟩, w, hl, p⟩))
    have wfF : ∀ o : Option Str, (∀ x, o = some x → Tx L x) → Wf L ⟨P.lead, P.fin.set at' o, P.tab⟩ := fun o ho => ⟨by show 1 ≤ (P.fin.set at' o).length; rw [List.length_set]; exact npos, by show (P.fin.set at' o).length ≤ 4; rw [List.length_set]; exact nmax, by show P.tab.length = (P.fin.set at' o).length; rw [List.length_set]; exact nlen, wf.row, fun r hr t x h => by show t < (P.fin.set at' o).length ∧ _; rw [List.length_set]; exact wf.way r hr t x h, fun x h => by
      rcases mem_set_of h with e | h
      · exact ho x e.symm
      · exact wf.fins x h, wf.lead⟩
    have wfW : ∀ wy : Way, (∀ t x, wy = some (t, x) → t < P.fin.length ∧ Tx L x) → Wf L ⟨P.lead, P.fin, P.tab.set at' (r.set pl wy)⟩ := fun wy ho => ⟨npos, nmax, by show (P.tab.set at' (r.set pl wy)).length = P.fin.length; rw [List.length_set]; exact nlen, fun r' h => by
      rcases mem_set_of h with e | h
      · rw [e, List.length_set]; exact hr2
      · exact wf.row r' h, fun r' h t x hx => by
      rcases mem_set_of h with e | h
      · rw [e] at hx
        rcases mem_set_of hx with e2 | hx
        · exact ho t x e2.symm
        · exact wf.way r (List.mem_of_getElem? hr1) t x hx
      · exact wf.way r' h t x hx, wf.fins, wf.lead⟩
    have setF : ∀ (te : TE) (A B : Hp), Ex A6 A → Tot (fun a => a = s) A0 H A B → SS s an A B → EvP te σ6 A (fun A v => ∃ o : Option Str, (∀ x, o = some x → Tx L x) ∧ Dp K A v (eS o)) → tAsg te (gSub (tVar 4) (tVar 7) rSetL) { nx := fun σ H => (tRet (tTup (tCons (tVar 3) (tCons (tVar 4) (tCons (tVar 5) tNil))))) { nx := fun _ H' => Q .non H', rt := Q } σ H, rt := Q } σ6 B := by
      intro te A B e S Z h
      refine z_set S Z h40 (e _ _ hu4) h (ev_varP rfl fun _ _ => rfl) (ev_varP rfl fun _ _ => rfl) (by omega) fun v A' B' s' p S' Z' => ?_
      obtain ⟨o, ho, hd⟩ := p
      exact fin3 P.lead σ6 _ _ _ _ rfl rfl rfl S' Z' ((b6.mono (e.trans s'.kn)).putF (k := at') (s'.kn _ _ (e _ _ hu4)) hd) (wfF o ho) (List.length_set)
    have setW : ∀ (te : TE) (A B : Hp), Ex A6 A → Tot (fun a => a = s) A0 H A B → SS s an A B → EvP te σ6 A (fun A v => ∃ wy : Way, (∀ t x, wy = some (t, x) → t < P.fin.length ∧ Tx L x) ∧ Dp K A v (eW wy)) → tAsg te (gSub (tOp (rIx K) (tVar 5) (tVar 7)) (tVar 8) rSetL) { nx := fun σ H => (tRet (tTup (tCons (tVar 3) (tCons (tVar 4) (tCons (tVar 5) tNil))))) { nx := fun _ H' => Q .non H', rt := Q } σ H, rt := Q } σ6 B := by
      intro te A B e S Z h
      obtain ⟨rl6, g5, gl, gn, gr⟩ := b6.tab
      have hlt : at' < rl6.length := by omega
      obtain ⟨lr, hlr⟩ : ∃ lr, rl6[at']? = some lr := ⟨_, List.getElem?_eq_getElem hlt⟩
      obtain ⟨q1, q2, q3, us, q4, q5⟩ := gr at' lr r hlr hr1
      have hul : us.length = L.length := by rw [da_len q5, List.length_map, hr2]
      refine z_set (l := lr) (us := us) (k := pl) S Z q1 (e _ _ q4) h (ev_ixX (K := K) (l := l5) (j := at') (ev_varP rfl fun _ _ => rfl) (e _ _ g5) (ev_var rfl (.int _)) rfl (by rw [List.getElem?_map, hlr]; rfl)) (ev_varP rfl fun _ _ => rfl) (by omega) fun v A' B' s' p S' Z' => ?_
      obtain ⟨wy, ho, hd⟩ := p
      exact fin3 P.lead σ6 _ _ _ _ rfl rfl rfl S' Z' ((b6.mono (e.trans s'.kn)).putW (k := pl) (s'.kn _ _ (e _ _ g5)) hlr hr1 (s'.kn _ _ (e _ _ q4)) hd) (wfW wy ho) rfl
    generalize finAt P (at' : Nat) = fo at *
    generalize wayAt P (at' : Nat) pl = wy at *
    refine z_if S6 Z6 (evst (hkind A6 0)) (fun _ A7 B7 s7 S7 Z7 => ?_) (fun _ A7 B7 s7 S7 Z7 => ?_)
    · refine setF _ A7 B7 s7.kn S7 Z7 (ev_if (K := K) (b := !isN (eS fo)) (et_test (ev_is1 (hfin A7 s7.kn) (by walk_at "ev") rfl)) (fun _ => EvP.imp (P := isV .non) ev_cv fun A v _ p => ⟨none, (fun x h => nomatch h), p ▸ .non⟩) (fun _ => EvP.imp (P := isV (.str "")) ev_cv fun A v _ p => ⟨some "", (fun x h => by cases h; exact tx_nil), p ▸ .str _⟩))
    refine z_if S7 Z7 (evst (hkind A7 1)) (fun _ A8 B8 s8 S8 Z8 => ?_) (fun _ A8 B8 s8 S8 Z8 => ?_)
    · have hE : Ex A6 A8 := s7.kn.trans s8.kn
      have hor : ∃ y : Str, y.length ≤ 10 ∧ Tx L y ∧ EvD K (tOrT K (tOp (rIx K) (tVar 4) (tVar 7)) (tC (.str ""))) σ6 A8 (.str y) := by
        cases fo with
        | none => exact ⟨"", by decide, tx_nil, fun A B a b Q q => hfin A8 hE A B a b _ fun u A1 B1 s1 p1 => by
            rw [dp_non p1]
            exact ⟨false, rfl, iteF (q _ A1 B1 s1 (.str _))⟩⟩
        | some x =>
          obtain ⟨h1, h2⟩ := hfx x rfl
          refine ⟨x, h1, h2, fun A B a b Q q => hfin A8 hE A B a b _ fun u A1 B1 s1 p1 => ?_⟩
          rw [dp_str p1]
          refine ⟨_, ⟨Nat.le_trans (by omega : x.length ≤ 1000) (by decide), rfl⟩, ?_⟩
          by_cases hz : x.length = 0
          · have e0 : tl x = [] := List.eq_nil_of_length_eq_zero (by rw [tl_len]; exact hz)
            have e : x = "" := tl_ext (by rw [e0]; rfl)
            subst e
            exact iteF (q _ A1 B1 s1 (.str _))
          · have e : ((x.length : Int) != 0) = true := by simp; omega
            rw [e]
            exact iteT (q _ A1 B1 s1 (.str _))
      obtain ⟨y, hy1, hy2, hye⟩ := hor
      refine setF _ A8 B8 hE S8 Z8 (EvP.imp (P := isD K (.str (⟨#[dch]⟩ ++ y))) (ev_addS (x := ⟨#[dch]⟩) (y := y) (hLp A8) hye (by rw [len1]; omega)) fun A v _ p => ⟨some ((⟨#[dch]⟩ : Str) ++ y), (fun x h => by cases h; exact tx_app (tx_one hdm).mem hy2.mem (by rw [len1]; omega)), p⟩)
    refine z_if (Pb := fun b => b = (decide ((kd : Int) = 2) && !isN (eW wy))) S8 Z8 (evst (et_and (hkind A8 2) fun _ => et_test (ev_is1 (hway A8 (s7.kn.trans s8.kn)) (by walk_at "ev") rfl))) (fun hb A9 B9 s9 S9 Z9 => ?_) (fun _ A9 B9 s9 S9 Z9 => ?_)
    · have hE : Ex A6 A9 := (s7.kn.trans s8.kn).trans s9.kn
      cases wy with
      | none => simp [isN, eW] at hb
      | some tx =>
        obtain ⟨t, x⟩ := tx
        obtain ⟨h1, h2, h3⟩ := hwx t x rfl
        have hw0 : EvD K (tOp (rIx K) (tOp (rIx K) (tOp (rIx K) (tVar 5) (tVar 7)) (tVar 8)) (tC (.int 0))) σ6 A9 (.int (t : Nat)) := ev_ixT (ds := [.int (t : Nat), .str x]) (j := 0) (hway A9 hE) (by walk_at "ev") rfl rfl
        have hw1 : EvD K (tOp (rIx K) (tOp (rIx K) (tOp (rIx K) (tVar 5) (tVar 7)) (tVar 8)) (tC (.int 1))) σ6 A9 (.str x) := ev_ixT (ds := [.int (t : Nat), .str x]) (j := 1) (hway A9 hE) (by walk_at "ev") rfl rfl
        exact setW _ A9 B9 hE S9 Z9 (EvP.imp (P := isD K (eW (some (t, x ++ ⟨#[c]⟩)))) (ev_tup (ds := [.int (t : Nat), .str (x ++ ⟨#[c]⟩)]) (ead_cons hw0 (ead_cons (ev_addS hw1 (hL0 A9) (by rw [len1]; omega)) ead_nil)) (Nat.le_of_ble_eq_true rfl)) fun A v _ p => ⟨some (t, x ++ ⟨#[c]⟩), (fun t' x' h => by cases h; exact ⟨h1, tx_app h3.mem (tx_one hc).mem (by rw [len1]; omega)⟩), p⟩)
    refine z_if S9 Z9 (evst (hkind A9 3)) (fun _ A10 B10 s10 S10 Z10 => ?_) (fun _ A10 B10 s10 S10 Z10 => ?_)
    · have hE : Ex A6 A10 := ((s7.kn.trans s8.kn).trans s9.kn).trans s10.kn
      refine setW _ A10 B10 hE S10 Z10 (ev_if (K := K) (b := !isN (eW wy)) (et_test (ev_is1 (hway A10 hE) (by walk_at "ev") rfl)) (fun _ => EvP.imp (P := isV .non) ev_cv fun A v _ p => ⟨none, (fun t x h => nomatch h), p ▸ .non⟩) (fun _ => EvP.imp (P := isD K (.tuple [.int 0, .str ""])) (ev_tup (by walk_at "ea") (Nat.le_of_ble_eq_true rfl)) fun A v _ p => ⟨some (0, ""), (fun t x h => by cases h; exact ⟨npos, tx_nil⟩), p⟩))
    · have hE : Ex A6 A10 := ((s7.kn.trans s8.kn).trans s9.kn).trans s10.kn
      have hll := wb.lead
      refine z_asg (P := isD K (.str (P.lead ++ ⟨#[dch]⟩))) S10 Z10 (evs (ev_addS (x := P.lead) (y := ⟨#[dch]⟩) (ev_var rfl (.str _)) (hLp A10) (by rw [len1]; omega))) fun v A11 B11 s11 S11 Z11 p11 => ?_
      have ev := dp_str p11
      subst ev
      exact fin3 (P.lead ++ ⟨#[dch]⟩) _ P.fin P.tab A11 B11 rfl rfl rfl S11 Z11 (b6.mono (hE.trans s11.kn)) ⟨npos, nmax, nlen, wf.row, wf.way, wf.fins, tx_app wf.lead.mem (tx_one hdm).mem (by rw [len1]; omega)⟩ rfl
end
-- W28
section
variable {K : PySem.W.Frag} {σ : L2.St} {A0 A B B0 : Hp} {tk te ta tb : TE} {tt : TT} {g : TG} {vs : List Nat} {M : Addr → Prop} {D : Ends} {d : Addr} {kvs : List (List Key × V)}
/-- a comprehension over a locked dict's keys; the items are plain values -/
theorem lcK {od : Obj} {f : (List Key × V) → Bool} {val : (List Key × V) → V} (hx : Ex A B) (hd : A d = some (.frz od (.dT kvs))) (ho : EvP tk σ A (isV (.ref d))) (hl : kvs.length ≤ 1000)
    (ht : ∀ p ∈ kvs, ∀ (q : Addr) (Aq : Hp), Ex A Aq → Aq q = some (.tup (p.1.map kV)) → ∃ σ2, (∀ B, GEv g (wipe σ vs) B (.ref q) σ2) ∧ wipe σ2 vs = wipe σ vs ∧ EvT K tt σ2 Aq (f p) ∧ (f p = true → EvP te σ2 Aq (isV (val p)))) (Q : VK)
    (k : ∀ l B', Stp A B A B' → B l = none → B' l = some (.lst ((kvs.filter f).map val)) → Q (.ref l) B') : tLc (iKeys tk) g tt te vs σ B Q := by
  refine ho A B (Ex.refl _) hx _ fun v A1 B1 s1 e => ?_
  subst e
  have s1 := s1.back (Ex.refl _)
  have hB1 : B1 d = some (.frz od (.dT kvs)) := s1.le _ _ hd
  refine ⟨d, od, rfl, .inr ⟨kvs, hB1, ?_⟩⟩
  intro Dl hD
  have hDB : B Dl = none := by
    cases e : B Dl with
    | none => rfl
    | some u => exact absurd hD (s1.th Dl (by rw [e]; simp))
  have hDA : A Dl = none := ex_none hx hDB
  let Pv : Nat → Hp → Prop := fun i H => StpM (fun _ => False) A B1 A H ∧ H Dl = some (.lst (((kvs.take i).filter f).map val))
  refine lc_it walk_keysT Pv ⟨.newU s1.le hD, upd_same⟩ (fun i H _ h => h.1.le _ _ hd) (fun i x H H' hi h y => ?_) (fun H h => ?_)
  · obtain ⟨S, hu⟩ := h
    obtain ⟨rfl, key, v, q, hk, rfl, hq⟩ := y
    have hAq : A q = none ∨ A q = some (.tup (key.map kV)) := by
      cases e : A q with
      | none => exact .inl rfl
      | some u => have := S.le _ _ e; rw [hq] at this; exact .inr this.symm
    have e1 : Ex A (upd A q (.tup (key.map kV))) := by
      rcases hAq with h | h
      · exact Ex.new h
      · intro a u z
        by_cases e : a = q
        · rw [e] at z ⊢; rw [upd_same, ← h]; exact z
        · rw [upd_ne e]; exact z
    have e2 : Ex (upd A q (.tup (key.map kV))) H' := fun a u z => by
      by_cases e : a = q
      · rw [e, upd_same] at z; rw [e, hq]; exact z
      · rw [upd_ne e] at z; exact S.le a u z
    have hmem : (key, v) ∈ kvs := List.mem_of_getElem? hk
    obtain ⟨σ2, hg, hw, hT, hE⟩ := ht (key, v) hmem q _ e1 upd_same
    refine hg H' _ ⟨hw, ?_⟩
    have etk : kvs.take (i + 1) = kvs.take i ++ [(key, v)] := by rw [List.take_add_one, hk]; rfl
    refine hT _ H' (Ex.refl _) e2 _ fun A4 B4 s4 => ?_
    have S4 := S.go (s4.back e1)
    have h4 : B4 Dl = some (.lst (((kvs.take i).filter f).map val)) := s4.al _ _ (fun z => z) hu
    cases hf : f (key, v) with
    | false =>
      refine iteF ⟨S4, ?_⟩
      rw [etk, List.filter_append]
      simpa [hf] using h4
    | true =>
      refine iteT (hE hf A4 B4 s4.kn s4.le _ fun w A5 B5 s5 p5 => ?_)
      subst p5
      have S5 := S.go (Stp.back e1 (s4.trans s5))
      have h5 : B5 Dl = some (.lst (((kvs.take i).filter f).map val)) := s5.al _ _ (fun z => z) h4
      have hlen : (((kvs.take i).filter f).map val).length ≤ 1000 := by
        rw [List.length_map]
        have h1 := List.length_filter_le f (kvs.take i)
        rw [List.length_take] at h1
        omega
      refine ⟨_, h5, Nat.lt_of_le_of_lt hlen (by decide), S5.mut (.inl hD) hDA, ?_⟩
      rw [etk, List.filter_append]
      simp [hf, upd_same]
  · obtain ⟨S, hu⟩ := h
    rw [List.take_length] at hu
    exact k Dl H (s1.trans S) hDB hu
theorem lock_ex {o : HO} (hx : Ex A B) : Ex (upd A d o) (upd B d o) := fun a u z => by
  by_cases e : a = d
  · rw [e, upd_same] at z ⊢; exact z
  · rw [upd_ne e] at z ⊢; exact hx a u z
/-- the same in a lock of its own: d is known -/
theorem ev_lockK {f : (List Key × V) → Bool} {val : (List Key × V) → V} (hd : A0 d = some (.dT kvs)) (hl : kvs.length ≤ 1000) (ho : ∀ A, EvP tk σ A (isV (.ref d)))
    (ht : ∀ (A : Hp) (od : Obj), Ex A0 A → ∀ p ∈ kvs, ∀ (q : Addr) (Aq : Hp), Ex (upd A d (.frz od (.dT kvs))) Aq → Aq q = some (.tup (p.1.map kV)) → ∃ σ2, (∀ B, GEv g (wipe σ vs) B (.ref q) σ2) ∧ wipe σ2 vs = wipe σ vs ∧ EvT K tt σ2 Aq (f p) ∧ (f p = true → EvP te σ2 Aq (isV (val p)))) :
    EvP (tLockE (tLc (iKeys tk) g tt te vs)) σ A0 fun A v => ∃ l, v = .ref l ∧ A l = some (.lst ((kvs.filter f).map val)) := fun A B a b Q q => by
  have hA := a _ _ hd
  have hB := b _ _ hA
  refine ⟨d, .dT kvs, hB, trivial, fun od => ?_⟩
  refine lcK (lock_ex b) upd_same (ho _) hl (ht A od a) _ fun l B' s hl0 hl1 => ?_
  have hld : l ≠ d := fun e => by rw [e, upd_same] at hl0; cases hl0
  rw [upd_ne hld] at hl0
  have hBd := s.al d _ (fun z => z) upd_same
  refine ⟨hBd, q _ (upd A l (.lst ((kvs.filter f).map val))) _ ?_ ⟨l, rfl, upd_same⟩⟩
  have hAl := ex_none b hl0
  refine ⟨Ex.new hAl, fun x u z => ?_, fun x u _ z => ?_, fun x h1 h2 => ?_, fun x h => ?_⟩
  · by_cases e : x = d
    · rw [e, upd_same]
      rw [e, upd_ne hld.symm, hA] at z
      exact z
    · rw [upd_ne e]
      by_cases e2 : x = l
      · rw [e2, upd_same] at z; rw [e2, hl1]; exact z
      · rw [upd_ne e2] at z
        exact s.al x u (fun z => z) (by rw [upd_ne e]; exact b _ _ z)
  · by_cases e : x = d
    · rw [e, upd_same]
      rw [e, hB] at z
      exact z
    · rw [upd_ne e]
      exact s.al x u (fun z => z) (by rw [upd_ne e]; exact z)
  · have e : x ≠ l := fun e => h1 (by rw [e]; exact hl0)
    rw [upd_ne e]
    exact h2
  · by_cases e : x = d
    · rw [e, upd_same]; simp
    · rw [upd_ne e]
      exact s.th x (by rw [upd_ne e]; exact h)
/-- x = [.. for key in d ..], d locked and not known else -/
theorem st_lockK {i : Nat} {f : (List Key × V) → Bool} {val : (List Key × V) → V} (S : Tot M A0 B0 A B) (O : Own A0 B0 A B d (.dT kvs)) (hl : kvs.length ≤ 1000) (ho : ∀ A, EvP tk σ A (isV (.ref d)))
    (ht : ∀ (od : Obj), ∀ p ∈ kvs, ∀ (q : Addr) (Aq : Hp), Ex (upd A d (.frz od (.dT kvs))) Aq → Aq q = some (.tup (p.1.map kV)) → ∃ σ2, (∀ B, GEv g (wipe σ vs) B (.ref q) σ2) ∧ wipe σ2 vs = wipe σ vs ∧ EvT K tt σ2 Aq (f p) ∧ (f p = true → EvP te σ2 Aq (isV (val p))))
    (k : ∀ l B', Stp A B A B' → Tot M A0 B0 A B' → Own A0 B0 A B' l (.lst ((kvs.filter f).map val)) → B l = none → D.nx (σ.set i (some (.ref l))) B') : tLock (tAsg (tLc (iKeys tk) g tt te vs) (gName i)) D σ B := by
  refine ⟨d, .dT kvs, O.at_, trivial, fun od => ?_⟩
  refine lcK (lock_ex S.le) upd_same (ho _) hl (ht od) _ fun l B' s hl0 hl1 => ?_
  have hld : l ≠ d := fun e => by rw [e, upd_same] at hl0; cases hl0
  rw [upd_ne hld] at hl0
  have hBd := s.al d _ (fun z => z) upd_same
  have t : Stp A B A (upd B' d (.dT kvs)) := by
    refine ⟨Ex.refl _, fun x u z => ?_, fun x u _ z => ?_, fun x h1 h2 => h2, fun x h => ?_⟩
    · have e : x ≠ d := fun e => by rw [e, O.unk] at z; cases z
      rw [upd_ne e]
      exact s.al x u (fun z => z) (by rw [upd_ne e]; exact S.le _ _ z)
    · by_cases e : x = d
      · rw [e, upd_same]
        rw [e, O.at_] at z
        exact z
      · rw [upd_ne e]
        exact s.al x u (fun z => z) (by rw [upd_ne e]; exact z)
    · by_cases e : x = d
      · rw [e, upd_same]; simp
      · rw [upd_ne e]
        exact s.th x (by rw [upd_ne e]; exact h)
  refine ⟨hBd, k l _ t (S.go t) ⟨by rw [upd_ne hld]; exact hl1, ?_, ex_none S.le hl0⟩ hl0⟩
  cases q : B0 l with
  | none => rfl
  | some u => exact absurd hl0 (S.s.th l (by rw [q]; simp))
end
-- W29
/-! ### what the drawing of a variant keeps -/
structure MvOk (L : Str) (P : Rw) (mv : List Str) : Prop where
  len : mv.length = P.fin.length
  z : mv[0]? = some ("" : Str)
  wo : ∀ m ∈ mv, Wo L m
  suf : ∀ (k : Nat) (r : List Way) (t : Nat) (x m : Str), P.tab[k]? = some r → some (t, x) ∈ r → mv[t]? = some m → ∃ y, x = y ++ m
structure OrdOk (n : Nat) (od : List Nat) : Prop where
  len : od.length = n
  z : od[0]? = some 0
  lt : ∀ m ∈ od, m < n
  all : ∀ t, t < n → t ∈ od
def mvF (mv : List Str) (k : Nat) : Str := (mv[k]?).getD ""
/-- a new row for the state k -/
def RowOk (L : Str) (P : Rw) (mv : List Str) (od : List Nat) (k : Nat) (row : List Way) : Prop := row.length = L.length ∧ ∀ j w, row[j]? = some w → match wayAt P (k : Nat) j with
  | none => w = none ∨ ∃ z : Str, Wo L z ∧ w = some (P.fin.length, z)
  | some (t, x) => ∃ y : Str, x = y ++ mvF mv t ∧ w = some (od.idxOf t, mvF mv k ++ y)
def finV (P : Rw) (mv : List Str) (k : Nat) : Option Str := (finAt P (k : Nat)).map (mvF mv k ++ ·)
theorem wo_app {L x y : Str} (hx : Wo L x) (hy : Wo L y) : Tx L (x ++ y) := ⟨by have := hx.len; have := hy.len; rw [len_app]; omega, fun c hc => by
  rw [tl_app] at hc
  rcases List.mem_append.mp hc with h | h
  · exact hx.mem c h
  · exact hy.mem c h⟩
theorem wo_pre {L x y m : Str} (h : Wo L x) (e : x = y ++ m) : Wo L y := ⟨by have := h.len; rw [e, len_app] at this; omega, fun c hc => h.mem c (by rw [e, tl_app]; exact List.mem_append.mpr (.inl hc))⟩
theorem MvOk.at {L : Str} {P : Rw} {mv : List Str} (h : MvOk L P mv) {k : Nat} (hk : k < P.fin.length) : mv[k]? = some (mvF mv k) ∧ Wo L (mvF mv k) := by
  have hl := h.len
  have e : mv[k]? = some mv[k] := List.getElem?_eq_getElem (by omega)
  have e2 : mvF mv k = mv[k] := by unfold mvF; rw [e]; rfl
  rw [e2]
  exact ⟨e, h.wo _ (List.getElem_mem (by omega))⟩
theorem Mk3.wayWo {L : Str} {P : Rw} (h : Mk3 L P) {k j t : Nat} {x : Str} (hw : wayAt P (k : Nat) j = some (t, x)) : t < P.fin.length ∧ Wo L x := by
  unfold wayAt at hw
  cases e : P.tab[((k : Nat) : Int).toNat]? with
  | none => rw [e] at hw; cases hw
  | some r =>
    rw [e] at hw
    have hw : (r[j]?).getD none = some (t, x) := hw
    cases e2 : r[j]? with
    | none => rw [e2] at hw; cases hw
    | some o =>
      rw [e2] at hw
      have hw : o = some (t, x) := hw
      subst hw
      exact h.way r (List.mem_of_getElem? e) t x (List.mem_of_getElem? e2)
theorem Mk3.finWo {L : Str} {P : Rw} (h : Mk3 L P) {k : Nat} {x : Str} (hf : finAt P (k : Nat) = some x) : Wo L x := by
  unfold finAt at hf
  cases e : P.fin[((k : Nat) : Int).toNat]? with
  | none => rw [e] at hf; cases hf
  | some o =>
    rw [e] at hf
    have hf : o = some x := hf
    subst hf
    exact h.fins x (List.mem_of_getElem? e)
section
variable {L : Str} {P : Rw} {mv : List Str} {od : List Nat} {nf : List (Option Str)} {nt : List (List Way)}
/-- the new rewriter -/
def newR (L : Str) (P : Rw) (nf : List (Option Str)) (nt : List (List Way)) : Rw := ⟨P.lead, nf ++ [none], nt ++ [(tl L).map fun _ => (some (P.fin.length, "") : Way)]⟩
theorem idx_lt (o : OrdOk P.fin.length od) {t : Nat} (ht : t < P.fin.length) : od.idxOf t < P.fin.length ∧ od[od.idxOf t]? = some t := by
  have h1 := List.idxOf_lt_length_iff.mpr (o.all t ht)
  have h2 := o.len
  refine ⟨by omega, ?_⟩
  rw [List.getElem?_eq_getElem h1, List.getElem_idxOf h1]
theorem new_wf (lok : LOk L) (h : Mk3 L P) (m : MvOk L P mv) (o : OrdOk P.fin.length od) (hn : nf.length = P.fin.length) (hf : ∀ (p k : Nat), od[p]? = some k → nf[p]? = some (finV P mv k)) (ht : nt.length = P.fin.length) (hr : ∀ (p k : Nat) (row : List Way), od[p]? = some k → nt[p]? = some row → RowOk L P mv od k row) :
    WfB 10 L (newR L P nf nt) := by
  have hpos := h.pos
  have hmax := h.max
  have hol := o.len
  have row : ∀ r ∈ (newR L P nf nt).tab, r.length = L.length ∧ ∀ t x, some (t, x) ∈ r → t < P.fin.length + 1 ∧ x.length ≤ 4 ∧ ∀ c ∈ tl x, c ∈ tl L := by
    intro r hr2
    rcases List.mem_append.mp hr2 with hm | hm
    · obtain ⟨p, hp⟩ := List.getElem?_of_mem hm
      have hpl := (List.getElem?_eq_some_iff.mp hp).1
      obtain ⟨k, hk⟩ : ∃ k, od[p]? = some k := ⟨_, List.getElem?_eq_getElem (by omega)⟩
      obtain ⟨h1, h2⟩ := hr p k r hk hp
      have hkn := o.lt k (List.mem_of_getElem? hk)
      refine ⟨h1, fun t x hx => ?_⟩
      obtain ⟨j, hj⟩ := List.getElem?_of_mem hx
      have h3 := h2 j _ hj
      cases hw : wayAt P (k : Nat) j with
      | none =>
        rw [hw] at h3
        rcases h3 with h3 | ⟨z, hz, h3⟩
        · cases h3
        · cases h3
          exact ⟨by omega, by have := hz.len; omega, hz.mem⟩
      | some ty =>
        obtain ⟨t', x'⟩ := ty
        rw [hw] at h3
        obtain ⟨y, e1, e2⟩ := h3
        cases e2
        obtain ⟨q1, q2⟩ := h.wayWo hw
        have q3 := wo_pre q2 e1
        have q4 := (m.at hkn).2
        refine ⟨by have := (idx_lt o q1).1; omega, by rw [len_app]; have := q3.len; have := q4.len; omega, (wo_app q4 q3).mem⟩
    · rw [List.mem_singleton] at hm
      subst hm
      refine ⟨by rw [List.length_map, tl_len], fun t x hx => ?_⟩
      rw [List.mem_map] at hx
      obtain ⟨c, _, e⟩ := hx
      cases e
      exact ⟨by omega, by decide, fun c hc => nomatch hc⟩
  have fins : ∀ x, some x ∈ (newR L P nf nt).fin → x.length ≤ 4 ∧ ∀ c ∈ tl x, c ∈ tl L := by
    intro x hx
    rcases List.mem_append.mp hx with hm | hm
    · obtain ⟨p, hp⟩ := List.getElem?_of_mem hm
      have hpl := (List.getElem?_eq_some_iff.mp hp).1
      obtain ⟨k, hk⟩ : ∃ k, od[p]? = some k := ⟨_, List.getElem?_eq_getElem (by omega)⟩
      have h1 := hf p k hk
      rw [hp] at h1
      have h1 := Option.some.inj h1
      have hkn := o.lt k (List.mem_of_getElem? hk)
      unfold finV at h1
      cases hfa : finAt P (k : Nat) with
      | none => rw [hfa] at h1; cases h1
      | some f =>
        rw [hfa] at h1
        have h1 : some x = some (mvF mv k ++ f) := h1
        cases h1
        have q1 := h.finWo hfa
        have q2 := (m.at hkn).2
        exact ⟨by rw [len_app]; have := q1.len; have := q2.len; omega, (wo_app q2 q1).mem⟩
    · rw [List.mem_singleton] at hm
      cases hm
  have ln : (newR L P nf nt).fin.length = P.fin.length + 1 := by show (nf ++ [none]).length = _; rw [List.length_append, hn]; rfl
  refine ⟨⟨by omega, by omega, ?_, fun r hr2 => (row r hr2).1, fun r hr2 t x hx => ?_, fun x hx => ?_, h.lead.tx⟩, by have := h.lead.len; show P.lead.length ≤ 10; omega, fun x hx => by have := (fins x hx).1; omega, fun r hr2 t x hx => by have := ((row r hr2).2 t x hx).2.1; omega⟩
  · rw [ln]
    show (nt ++ [_]).length = _
    rw [List.length_append, ht]
    rfl
  · obtain ⟨q1, q2, q3⟩ := (row r hr2).2 t x hx
    exact ⟨by omega, by omega, q3⟩
  · obtain ⟨q1, q2⟩ := fins x hx
    exact ⟨by omega, q2⟩
theorem new_var (lok : LOk L) (h : Mk3 L P) (m : MvOk L P mv) (o : OrdOk P.fin.length od) (hn : nf.length = P.fin.length) (hf : ∀ (p k : Nat), od[p]? = some k → nf[p]? = some (finV P mv k)) (ht : nt.length = P.fin.length) (hr : ∀ (p k : Nat) (row : List Way), od[p]? = some k → nt[p]? = some row → RowOk L P mv od k row) :
    Var L P (newR L P nf nt) (fun t => od.idxOf t) (mvF mv) := by
  have hpos := h.pos
  have ln : (newR L P nf nt).fin.length = P.fin.length + 1 := by show (nf ++ [none]).length = _; rw [List.length_append, hn]; rfl
  have fat : ∀ k, k < P.fin.length → finAt (newR L P nf nt) (od.idxOf k : Nat) = finV P mv k := by
    intro k hk
    obtain ⟨h1, h2⟩ := idx_lt o hk
    have h3 := hf _ k h2
    have h4 : (newR L P nf nt).fin[od.idxOf k]? = some (finV P mv k) := by
      show (nf ++ [none])[od.idxOf k]? = _
      rw [List.getElem?_append_left (by omega)]
      exact h3
    unfold finAt
    show ((newR L P nf nt).fin[od.idxOf k]?).getD none = _
    rw [h4]
    rfl
  have wat : ∀ k, k < P.fin.length → ∃ row, RowOk L P mv od k row ∧ ∀ j, wayAt (newR L P nf nt) (od.idxOf k : Nat) j = (row[j]?).getD none := by
    intro k hk
    obtain ⟨h1, h2⟩ := idx_lt o hk
    obtain ⟨row, h3⟩ : ∃ row, nt[od.idxOf k]? = some row := ⟨_, List.getElem?_eq_getElem (by omega)⟩
    refine ⟨row, hr _ k row h2 h3, fun j => ?_⟩
    have h4 : (newR L P nf nt).tab[od.idxOf k]? = some row := by
      show (nt ++ [_])[od.idxOf k]? = _
      rw [List.getElem?_append_left (by omega)]
      exact h3
    unfold wayAt
    show (((newR L P nf nt).tab[od.idxOf k]?).getD [])[j]?.getD none = _
    rw [h4]
    rfl
  have dead : ∀ s, Live (newR L P nf nt) s → s ≠ P.fin.length := by
    intro s hs
    induction hs with
    | fin hf2 =>
      intro e
      subst e
      have h4 : (newR L P nf nt).fin[P.fin.length]? = some none := by
        show (nf ++ [none])[P.fin.length]? = _
        rw [← hn, List.getElem?_append_right (Nat.le_refl _), Nat.sub_self]
        rfl
      rw [h4] at hf2
      cases hf2
    | way h1 h2 _ ih =>
      intro e
      subst e
      have h4 : (newR L P nf nt).tab[P.fin.length]? = some ((tl L).map fun _ => (some (P.fin.length, "") : Way)) := by
        show (nt ++ [_])[P.fin.length]? = _
        rw [← ht, List.getElem?_append_right (Nat.le_refl _), Nat.sub_self]
        rfl
      rw [h4] at h1
      cases h1
      rw [List.mem_map] at h2
      obtain ⟨c, _, e⟩ := h2
      cases e
      exact ih rfl
  refine ⟨rfl, ?_, ?_, fun k hk => by rw [ln]; have := (idx_lt o hk).1; omega, fun k hk => (m.at hk).2.tx, fun k hk => fat k hk, fun k hk j hj t x hw => ?_, fun k hk j hj hw u z hz => ?_⟩
  · show od.idxOf 0 = 0
    have hz := o.z
    cases od with
    | nil => cases hz
    | cons a b =>
      have hz : some a = some 0 := hz
      cases hz
      simp
  · show (mv[0]?).getD ("" : Str) = ("" : Str)
    rw [m.z]
    rfl
  · obtain ⟨row, hrow, hat⟩ := wat k hk
    have hj2 : j < row.length := by rw [hrow.1]; exact hj
    have h1 := hrow.2 j _ (List.getElem?_eq_getElem hj2)
    rw [hw] at h1
    obtain ⟨y, e1, e2⟩ := h1
    refine ⟨y, ?_, e1⟩
    rw [hat j, List.getElem?_eq_getElem hj2]
    exact e2
  · obtain ⟨row, hrow, hat⟩ := wat k hk
    have hj2 : j < row.length := by rw [hrow.1]; exact hj
    have h1 := hrow.2 j _ (List.getElem?_eq_getElem hj2)
    rw [hat j, List.getElem?_eq_getElem hj2] at hz
    have hz : row[j] = some (u, z) := hz
    rw [hw, hz] at h1
    rcases h1 with h1 | ⟨z', _, h1⟩
    · cases h1
    · cases h1
      exact fun hl => dead _ hl rfl
end
-- W30
section
variable {K : PySem.W.Frag} {s an : Addr} {σ : L2.St} {A0 A B B0 : Hp} {te ta tb ti : TE} {D : Ends} {M : Addr → Prop}
/-- [elt for x in ..], the items draw -/
theorem evs_lcI {α : Type} {wi : TI} {g : TG} {vs : List Nat} {Pe : α → Hp → V → Prop} (xs : List α) (enc : α → PyData) (hs : Src K wi σ A0 (xs.map enc)) (hl : xs.length ≤ 1000000) (hm : ∀ a, Mon (Pe a))
    (ht : ∀ a ∈ xs, ∀ x A B, Ex A0 A → Ex A B → Dp K A x (enc a) → ∃ σ2, GEv g (wipe σ vs) B x σ2 ∧ wipe σ2 vs = wipe σ vs ∧ EvS s an te σ2 A (Pe a)) :
    EvS s an (tLc wi g tYes te vs) σ A0 fun A v => ∃ l us, v = .ref l ∧ A0 l = none ∧ A l = some (.lst us) ∧ us.length = xs.length ∧ ∀ (i : Nat) (u : V) (a : α), us[i]? = some u → xs[i]? = some a → Pe a A u := fun A B a b Z Q k => hs A B a b _ fun J A1 B1 G Y s1 W hG hY => by
  intro Dl hD
  rw [List.length_map] at W hY
  have Z1 := Z.go s1
  have hsD : Dl ≠ s := by
    intro e
    obtain ⟨_, pl, h⟩ := Z1
    rw [e, h] at hD
    cases hD
  let Pv : Nat → Hp → Prop := fun i H => ∃ A2, Stq s A1 B1 A2 H ∧ SS s an A2 H ∧ A2 Dl = none ∧ ∃ us, H Dl = some (.lst us) ∧ us.length = i ∧ ∀ (j : Nat) (u : V) (a : α), us[j]? = some u → xs[j]? = some a → Pe a A2 u
  have hD0 : A1 Dl = none := ex_none s1.le hD
  have hDB : B Dl = none := by
    cases e : B Dl with
    | none => rfl
    | some u => exact absurd hD (s1.th Dl (by rw [e]; simp))
  refine lc_it W Pv ⟨A1, .newU s1.le hD, Z1.go (.newU s1.le hD), hD0, [], upd_same, rfl, fun j u a h => by simp at h⟩ (fun i H _ ⟨A2, S, _⟩ => hG H S.ex0) (fun i x H H' hi ⟨A2, S, Z2, n2, us, hu, hul, pu⟩ y => ?_) (fun H ⟨A2, S, Z2, n2, us, hu, hul, pu⟩ => ?_)
  · obtain ⟨A3, s3, d, hd, px⟩ := hY i H x H' A2 hi y S.kn S.le
    rw [List.getElem?_map, List.getElem?_eq_getElem hi] at hd
    cases hd
    have S3 := S.go s3
    have Z3 := Z2.go s3
    have n3 : A3 Dl = none := s3.sp Dl (by rw [hu]; simp) n2
    have h3 : H' Dl = some (.lst us) := s3.al _ _ (fun z => z) hu
    obtain ⟨σ2, hg, hw, hE⟩ := ht xs[i] (List.getElem_mem hi) x A3 H' ((a.trans s1.kn).trans S3.kn) S3.le px
    refine hg _ ⟨hw, ?_⟩
    unfold tYes
    dsimp only
    rw [if_pos rfl]
    refine hE A3 H' (Ex.refl _) S3.le Z3 _ fun v A5 B5 s5 z5 p5 => ?_
    have S5 := S3.trans s5
    have n5 : A5 Dl = none := s5.sp Dl (by rw [h3]; simp) n3
    have h5 : B5 Dl = some (.lst us) := s5.al _ _ hsD h3
    have S6 : Stq s A1 B1 A5 (upd B5 Dl (.lst (us ++ [v]))) := S5.mut (.inl hD) n5
    have Z6 : SS s an A5 (upd B5 Dl (.lst (us ++ [v]))) := by
      obtain ⟨q1, pl, q2⟩ := z5
      exact ⟨q1, pl, by rw [upd_ne (Ne.symm hsD)]; exact q2⟩
    refine ⟨us, h5, by rw [hul]; exact Nat.lt_of_lt_of_le (Nat.lt_of_lt_of_le hi hl) (by decide), A5, S6, Z6, n5, us ++ [v], upd_same, by rw [List.length_append, hul]; rfl, fun j u a h1 h2 => ?_⟩
    by_cases hj : j < us.length
    · rw [List.getElem?_append_left hj] at h1
      exact hm _ _ _ _ (s3.kn.trans s5.kn) (pu j u a h1 h2)
    · rw [List.getElem?_append_right (by omega)] at h1
      have e : j = i := by
        cases e2 : j - us.length with
        | zero => omega
        | succ n => rw [e2] at h1; simp at h1
      subst e
      rw [hul, Nat.sub_self] at h1
      cases h1
      rw [List.getElem?_eq_getElem hi] at h2
      cases h2
      exact p5
  · have S' : Stq s A B (upd A2 Dl (.lst us)) H := ((s1.up (M := fun a => a = s)).trans S).frz hDB n2 hu
    have Z' : SS s an (upd A2 Dl (.lst us)) H := by
      obtain ⟨q1, pl, q2⟩ := Z2
      exact ⟨by rw [upd_ne (Ne.symm hsD)]; exact q1, pl, q2⟩
    exact k _ _ H S' Z' ⟨Dl, us, rfl, ex_none (a.trans s1.kn) hD0, upd_same, hul, fun i u a h1 h2 => hm _ _ _ _ (Ex.new n2) (pu i u a h1 h2)⟩
/-- [elt for x in ..], the items draw -/
theorem evp_lcI {α : Type} {wi : TI} {g : TG} {vs : List Nat} {Pe : α → Hp → V → Prop} (xs : List α) (enc : α → PyData) (hs : Src K wi σ A0 (xs.map enc)) (hl : xs.length ≤ 1000000) (hm : ∀ a, Mon (Pe a))
    (ht : ∀ a ∈ xs, ∀ x A B, Ex A0 A → Ex A B → Dp K A x (enc a) → ∃ σ2, GEv g (wipe σ vs) B x σ2 ∧ wipe σ2 vs = wipe σ vs ∧ EvP te σ2 A (Pe a)) :
    EvP (tLc wi g tYes te vs) σ A0 fun A v => ∃ l us, v = .ref l ∧ A0 l = none ∧ A l = some (.lst us) ∧ us.length = xs.length ∧ ∀ (i : Nat) (u : V) (a : α), us[i]? = some u → xs[i]? = some a → Pe a A u := fun A B a b Q k => hs A B a b _ fun J A1 B1 G Y s1 W hG hY => by
  intro Dl hD
  rw [List.length_map] at W hY
  let Pv : Nat → Hp → Prop := fun i H => ∃ A2, Stp A1 B1 A2 H ∧ A2 Dl = none ∧ ∃ us, H Dl = some (.lst us) ∧ us.length = i ∧ ∀ (j : Nat) (u : V) (a : α), us[j]? = some u → xs[j]? = some a → Pe a A2 u
  have hD0 : A1 Dl = none := ex_none s1.le hD
  have hDB : B Dl = none := by
    cases e : B Dl with
    | none => rfl
    | some u => exact absurd hD (s1.th Dl (by rw [e]; simp))
  refine lc_it W Pv ⟨A1, .newU s1.le hD, hD0, [], upd_same, rfl, fun j u a h => by simp at h⟩ (fun i H _ ⟨A2, S, _⟩ => hG H S.ex0) (fun i x H H' hi ⟨A2, S, n2, us, hu, hul, pu⟩ y => ?_) (fun H ⟨A2, S, n2, us, hu, hul, pu⟩ => ?_)
  · obtain ⟨A3, s3, d, hd, px⟩ := hY i H x H' A2 hi y S.kn S.le
    rw [List.getElem?_map, List.getElem?_eq_getElem hi] at hd
    cases hd
    have S3 := S.go s3
    have n3 : A3 Dl = none := s3.sp Dl (by rw [hu]; simp) n2
    have h3 : H' Dl = some (.lst us) := s3.al _ _ (fun z => z) hu
    obtain ⟨σ2, hg, hw, hE⟩ := ht xs[i] (List.getElem_mem hi) x A3 H' ((a.trans s1.kn).trans S3.kn) S3.le px
    refine hg _ ⟨hw, ?_⟩
    unfold tYes
    dsimp only
    rw [if_pos rfl]
    refine hE A3 H' (Ex.refl _) S3.le _ fun v A5 B5 s5 p5 => ?_
    have S5 := S3.trans s5
    have n5 : A5 Dl = none := s5.sp Dl (by rw [h3]; simp) n3
    have h5 : B5 Dl = some (.lst us) := s5.al _ _ (fun z => z) h3
    have S6 : Stp A1 B1 A5 (upd B5 Dl (.lst (us ++ [v]))) := S5.mut (.inl hD) n5
    refine ⟨us, h5, by rw [hul]; exact Nat.lt_of_lt_of_le (Nat.lt_of_lt_of_le hi hl) (by decide), A5, S6, n5, us ++ [v], upd_same, by rw [List.length_append, hul]; rfl, fun j u a h1 h2 => ?_⟩
    by_cases hj : j < us.length
    · rw [List.getElem?_append_left hj] at h1
      exact hm _ _ _ _ (s3.kn.trans s5.kn) (pu j u a h1 h2)
    · rw [List.getElem?_append_right (by omega)] at h1
      have e : j = i := by
        cases e2 : j - us.length with
        | zero => omega
        | succ n => rw [e2] at h1; simp at h1
      subst e
      rw [hul, Nat.sub_self] at h1
      cases h1
      rw [List.getElem?_eq_getElem hi] at h2
      cases h2
      exact p5
  · have S' : Stp A B (upd A2 Dl (.lst us)) H := (s1.trans S).frz hDB n2 hu
    exact k _ _ H S' ⟨Dl, us, rfl, ex_none (a.trans s1.kn) hD0, upd_same, hul, fun i u a h1 h2 => hm _ _ _ _ (Ex.new n2) (pu i u a h1 h2)⟩

/-- d[t] = v, the key a new tuple -/
theorem st_dputT {i : Nat} {d : Addr} {kvs : List (List Key × V)} {ks : List Key} {y : V} (h : EvP te σ A (isV y)) (hi : σ[i]? = some (some (.ref d))) (hk : EvP ti σ A (HTV (ks.map kV))) (S : Tot M A0 B0 A B) (O : Own A0 B0 A B d (.dT kvs)) (hl : kvs.length ≤ 1000000)
    (k : ∀ A' B', Stp A B A' B' → Tot M A0 B0 A' (upd B' d (.dT (putK kvs ks y))) → Own A0 B0 A' (upd B' d (.dT (putK kvs ks y))) d (.dT (putK kvs ks y)) → D.nx σ (upd B' d (.dT (putK kvs ks y)))) : sDPut (tVar i) ti te D σ B :=
  h A B (Ex.refl _) S.le _ fun v A1 B1 s1 e1 => ⟨_, hi, hk A1 B1 s1.kn s1.le _ fun w A2 B2 s2 p2 => by
    subst e1
    obtain ⟨b, rfl, hb⟩ := p2
    have O2 := (O.go s1).go s2
    have S2 := (S.go s1).go s2
    exact ⟨d, _, rfl, DPut.t O2.at_ (S2.le _ _ hb) (Nat.lt_of_le_of_lt hl (by decide)), k A2 B2 (s1.trans s2) (S2.mut O2) O2.put⟩⟩
theorem mem_putK {kvs : List (List Key × V)} {k : List Key} {v : V} {p : List Key × V} (h : p ∈ putK kvs k v) : p = (k, v) ∨ p ∈ kvs := by
  unfold putK at h
  split at h
  · rw [List.mem_map] at h
    obtain ⟨q, hq, e⟩ := h
    split at e
    · rename_i e2
      subst e
      exact .inl (by rw [e2])
    · subst e
      exact .inr hq
  · rcases List.mem_append.mp h with h | h
    · exact .inr h
    · rw [List.mem_singleton] at h
      exact .inl h
theorem valV_mem {kvs : List (List Key × V)} {k : List Key} {y : V} (h : valV kvs k = some y) : (k, y) ∈ kvs := by
  unfold valV at h
  cases e : kvs.find? fun kv => decide (kv.1 = k) with
  | none => rw [e] at h; cases h
  | some q =>
    rw [e] at h
    have h : some q.2 = some y := h
    have h1 := List.mem_of_find?_eq_some e
    have h2 := List.find?_some e
    have h2 := of_decide_eq_true h2
    cases h
    rw [← h2]
    exact h1
theorem mem_valV {kvs : List (List Key × V)} {p : List Key × V} (h : p ∈ kvs) : ∃ y, valV kvs p.1 = some y := by
  unfold valV
  cases e : kvs.find? fun kv => decide (kv.1 = p.1) with
  | some q => exact ⟨q.2, rfl⟩
  | none =>
    rw [List.find?_eq_none] at e
    exact absurd (decide_eq_true rfl) (e p h)
theorem nat_list {us : List V} {m : Nat} (h : ∀ u ∈ us, ∃ r : Nat, r < m ∧ u = .int (r : Nat)) : ∃ lt : List Nat, us = lt.map (fun r => V.int (r : Nat)) ∧ ∀ r ∈ lt, r < m := by
  induction us with
  | nil => exact ⟨[], rfl, fun _ h => nomatch h⟩
  | cons u us ih =>
    obtain ⟨lt, h1, h2⟩ := ih fun u hu => h u (List.mem_cons_of_mem _ hu)
    obtain ⟨r, hr, rfl⟩ := h u List.mem_cons_self
    exact ⟨r :: lt, by rw [h1]; rfl, fun d hd => by
      rcases List.mem_cons.mp hd with rfl | hd
      · exact hr
      · exact h2 d hd⟩
end
theorem flat_nats (od : List Nat) : (od.map fun r => V.int (r : Nat)).all flatV = true := by
  rw [List.all_eq_true]
  intro v hv
  rw [List.mem_map] at hv
  obtain ⟨r, _, rfl⟩ := hv
  rfl
theorem ev_lindex {K : PySem.W.Frag} {σ : L2.St} {A0 : Hp} {ta te : TE} {l : Addr} {od : List Nat} {t : Nat} (h1 : EvP ta σ A0 (isV (.ref l))) (hl : A0 l = some (.lst (od.map fun r => V.int (r : Nat)))) (h2 : EvD K te σ A0 (.int (t : Nat))) (hm : t ∈ od) : EvD K (tBM K "list" (rIndex K) ta (tCons te tNil)) σ A0 (.int (od.idxOf t : Nat)) := fun A B a b Q q =>
  h1 A B a b _ fun u A1 B1 s1 e => by
    subst e
    have hB1 := s1.le _ _ ((a.trans s1.kn) _ _ hl)
    refine ⟨.inl ⟨rfl, _, SqL.of hB1⟩, h2 A1 B1 (a.trans s1.kn) s1.le _ fun w A2 B2 s2 p2 => ?_⟩
    have e := dp_int p2
    subst e
    have hB2 := s2.le _ _ (((a.trans s1.kn).trans s2.kn) _ _ hl)
    have hlt := List.idxOf_lt_length_iff.mpr hm
    refine ⟨l, _, .int (t : Nat), od.idxOf t, .int (t : Nat), rfl, rfl, SqL.of hB2, rfl, flat_nats od, ?_, ?_, fun m z hm2 hz => ?_, q _ A2 B2 (s1.trans s2) (.int _)⟩
    · rw [List.getElem?_map, List.getElem?_eq_getElem hlt, List.getElem_idxOf hlt]
      rfl
    · simp [eqV]
    · rw [List.getElem?_map] at hz
      cases e : od[m]? with
      | none => rw [e] at hz; cases hz
      | some r =>
        rw [e] at hz
        cases hz
        have hne : r ≠ t := fun e2 => by
          subst e2
          have hml := (List.getElem?_eq_some_iff.mp e).1
          have h3 := List.not_of_lt_findIdx (p := fun x => x == r) (xs := od) (i := m) hm2
          rw [List.getElem?_eq_getElem hml] at e
          cases e
          simp at h3
        simp [eqV]
        omega
-- W31
def sp_l_variant (K : PySem.W.Frag) (CR CC : Addr) : Sp := fun vs H Q _ => ∃ (A : Hp) (s an : Addr) (L : Str) (v : V) (P : Rw), vs = [.str L, .ref s, v] ∧ Ex A H ∧ SS s an A H ∧ NumA K A an ∧ LOk L ∧ Mk3 L P ∧ Dp K A v (eParts P) ∧
  RetS s an A H Q fun A v => ∃ (S : Rw) (ix : Nat → Nat) (mv : Nat → Str), WfB 10 L S ∧ Var L P S ix mv ∧ S.fin.length = P.fin.length + 1 ∧ Dp K A v (eParts S)
def ck (k j : Nat) : List Key := [.inl (k : Nat), .inl (j : Nat)]
def CutA (L : Str) (P : Rw) (kvs : List (List Key × V)) : Prop := ∀ p ∈ kvs, ∃ (k j t c : Nat) (x : Str), p.1 = ck k j ∧ k < P.fin.length ∧ j < L.length ∧ wayAt P (k : Nat) j = some (t, x) ∧ p.2 = .int (c : Nat) ∧ c ≤ x.length
def CutB (L : Str) (P : Rw) (kvs : List (List Key × V)) (K J : Nat) : Prop := ∀ k j t x, wayAt P (k : Nat) j = some (t, x) → j < L.length → (k < K ∨ (k = K ∧ j < J)) → ∃ y, valV kvs (ck k j) = some y
theorem CutA.put {L : Str} {P : Rw} {kvs : List (List Key × V)} {k j t c : Nat} {x : Str} (h : CutA L P kvs) (hk : k < P.fin.length) (hj : j < L.length) (hw : wayAt P (k : Nat) j = some (t, x)) (hc : c ≤ x.length) : CutA L P (putK kvs (ck k j) (.int (c : Nat))) := fun p hp => by
  rcases mem_putK hp with rfl | hp
  · exact ⟨k, j, t, c, x, rfl, hk, hj, hw, rfl, hc⟩
  · exact h p hp
theorem CutB.put {L : Str} {P : Rw} {kvs : List (List Key × V)} {k j : Nat} {y : V} (h : CutB L P kvs k j) : CutB L P (putK kvs (ck k j) y) k (j + 1) := fun k' j' t x hw hj' hlt => by
  rw [valV_put]
  by_cases e : ck k' j' = ck k j
  · rw [if_pos e]
    exact ⟨_, rfl⟩
  · rw [if_neg e]
    refine h k' j' t x hw hj' ?_
    rcases hlt with hlt | ⟨rfl, hlt⟩
    · exact .inl hlt
    · refine .inr ⟨rfl, ?_⟩
      have : j' ≠ j := fun e2 => e (by rw [e2])
      omega
theorem CutB.skip {L : Str} {P : Rw} {kvs : List (List Key × V)} {k j : Nat} (h : CutB L P kvs k j) (hw : wayAt P (k : Nat) j = none) : CutB L P kvs k (j + 1) := fun k' j' t x hw' hj' hlt => by
  refine h k' j' t x hw' hj' ?_
  rcases hlt with hlt | ⟨rfl, hlt⟩
  · exact .inl hlt
  · refine .inr ⟨rfl, ?_⟩
    have : j' ≠ j := fun e2 => by rw [e2, hw] at hw'; cases hw'
    omega
/-- a key's way leads to k -/
def toK (P : Rw) (k : Nat) (p : List Key × V) : Bool := match p.1 with
  | [.inl a, .inl b] => match wayAt P a b.toNat with
    | some (t, _) => decide ((t : Int) = (k : Int))
    | none => false
  | _ => false
def cutI (kvs : List (List Key × V)) (p : List Key × V) : Int := match valV kvs p.1 with
  | some (.int i) => i
  | _ => 0
def cutX (P : Rw) (p : List Key × V) : Str := match p.1 with
  | [.inl a, .inl b] => match wayAt P a b.toNat with
    | some (_, x) => x
    | none => ""
  | _ => ""
theorem toK_ck {P : Rw} {k a b t : Nat} {x : Str} {v : V} (hw : wayAt P (a : Nat) b = some (t, x)) : toK P k (ck a b, v) = decide ((t : Int) = (k : Int)) := by
  show (match wayAt P (a : Int) ((b : Int)).toNat with | some (t, _) => decide ((t : Int) = (k : Int)) | none => false) = _
  rw [show ((b : Int)).toNat = b from rfl, hw]
theorem cutX_ck {P : Rw} {a b t : Nat} {x : Str} {v : V} (hw : wayAt P (a : Nat) b = some (t, x)) : cutX P (ck a b, v) = x := by
  show (match wayAt P (a : Int) ((b : Int)).toNat with | some (_, x) => x | none => "") = _
  rw [show ((b : Int)).toNat = b from rfl, hw]
theorem CutA.val {L : Str} {P : Rw} {kvs : List (List Key × V)} (h : CutA L P kvs) {p : List Key × V} (hp : p ∈ kvs) : ∃ (k j t c : Nat) (x : Str), p.1 = ck k j ∧ k < P.fin.length ∧ j < L.length ∧ wayAt P (k : Nat) j = some (t, x) ∧ valV kvs p.1 = some (.int (c : Nat)) ∧ c ≤ x.length := by
  obtain ⟨y, hy⟩ := mem_valV hp
  obtain ⟨k, j, t, c, x, h1, h2, h3, h4, h5, h6⟩ := h _ (valV_mem hy)
  have h5 : y = .int (c : Nat) := h5
  exact ⟨k, j, t, c, x, h1, h2, h3, h4, by rw [hy, h5], h6⟩
theorem st_newRg {K : PySem.W.Frag} {σ : L2.St} {M : Addr → Prop} {A0 B0 A B : Hp} {D : Ends} {te : TE} {i n : Nat} (h : EvD K te σ A (.int (n : Nat))) (S : Tot M A0 B0 A B) (hn : n ≤ 1000000) (k : ∀ l A' B', Stp A B A' B' → Tot M A0 B0 A' (upd B' l (.lst ((List.range n).map fun r => V.int (r : Nat)))) → Own A0 B0 A' (upd B' l (.lst ((List.range n).map fun r => V.int (r : Nat)))) l (.lst ((List.range n).map fun r => V.int (r : Nat))) → D.nx (σ.set i (some (.ref l))) (upd B' l (.lst ((List.range n).map fun r => V.int (r : Nat))))) : tAsg (tLstRg (tRg1 te)) (gName i) D σ B :=
  h A B (Ex.refl _) S.le _ fun v A1 B1 s1 p => ⟨n, dp_int p, .of_le (by omega) (by omega) (by omega) (by omega), fun x hx => by
    rw [rgV_nat]
    obtain ⟨S1, O1⟩ := (S.go s1).newU (o := .lst ((List.range n).map fun r => V.int (r : Nat))) hx
    exact k x A1 B1 s1 S1 O1⟩
theorem OrdOk.start {n : Nat} (h : 1 ≤ n) : OrdOk n (List.range n) := ⟨List.length_range, List.getElem?_range (by omega), fun m hm => List.mem_range.mp hm, fun t ht => List.mem_range.mpr ht⟩
theorem OrdOk.swap {n : Nat} {od : List Nat} {k j a b : Nat} (o : OrdOk n od) (hk : 0 < k) (hk2 : k < n) (hj : 0 < j) (hj2 : j < n) (ek : od[k]? = some a) (ej : od[j]? = some b) : OrdOk n ((od.set k b).set j a) := by
  have hl := o.len
  refine ⟨by rw [List.length_set, List.length_set]; exact hl, ?_, fun m hm => ?_, fun t ht => ?_⟩
  · rw [List.getElem?_set_ne (by omega), List.getElem?_set_ne (by omega)]
    exact o.z
  · rcases mem_set_of hm with rfl | hm
    · exact o.lt _ (List.mem_of_getElem? ek)
    · rcases mem_set_of hm with rfl | hm
      · exact o.lt _ (List.mem_of_getElem? ej)
      · exact o.lt m hm
  · obtain ⟨i, hi⟩ := List.getElem?_of_mem (o.all t ht)
    by_cases e1 : i = k
    · subst e1
      rw [ek] at hi
      cases hi
      refine List.mem_of_getElem? (i := j) ?_
      rw [List.getElem?_set_self (by rw [List.length_set]; omega)]
    · by_cases e2 : i = j
      · subst e2
        rw [ej] at hi
        cases hi
        refine List.mem_of_getElem? (i := k) ?_
        rw [List.getElem?_set_ne (by omega), List.getElem?_set_self (by omega)]
      · refine List.mem_of_getElem? (i := i) ?_
        rw [List.getElem?_set_ne (by omega), List.getElem?_set_ne (by omega)]
        exact hi
theorem strs_shaped {xs : List Str} (h : ∀ x ∈ xs, ∀ c ∈ tl x, c < 1000) : SeqAt.shaped (.list (xs.map .str)) = true := by
  have h1 : ∀ xs : List Str, (∀ x ∈ xs, ∀ c ∈ tl x, c < 1000) → PyData.canLayAll0 (xs.map .str) = true ∧ PyData.depthAll (xs.map .str) ≤ 1 := by
    intro xs
    induction xs with
    | nil => intro _; simp [PyData.canLayAll0, PyData.depthAll]
    | cons a t ih =>
      intro h
      have h2 := ih fun x hx => h x (List.mem_cons_of_mem _ hx)
      have h3 := strOk_mo (h a List.mem_cons_self)
      simp only [List.map_cons, PyData.canLayAll0, PyData.depthAll, PyData.canLay0, PyData.depth, h2.1, h3]
      exact ⟨rfl, by omega⟩
  have h2 : PyData.depth (.list (xs.map .str)) ≤ 64 := by simp only [PyData.depth]; have := (h1 xs h).2; omega
  show (PyData.canLay0 (.list (xs.map .str)) && decide (PyData.depth (.list (xs.map .str)) ≤ 64)) = true
  rw [Bool.and_eq_true]
  exact ⟨by simp only [PyData.canLay0]; exact (h1 xs h).1, decide_eq_true h2⟩
theorem eqv_nilS (ns : List Str) : PyData.eqv (.list (ns.map .str)) (.list []) = ns.isEmpty := by
  cases ns <;> simp [PyData.eqv, PyData.eqvAll]
theorem ev_dgetF {σ : L2.St} {A : Hp} {ta tb : TE} {d b : Addr} {od : Obj} {kvs : List (List Key × V)} {ks : List Key} {y : V} (h1 : EvP ta σ A (isV (.ref d))) (h2 : EvP tb σ A (isV (.ref b))) (hd : A d = some (.frz od (.dT kvs))) (hb : A b = some (.tup (ks.map kV))) (hv : valV kvs ks = some y) : EvP (tDGet ta tb) σ A (isV y) := fun A1 B1 a f Q q =>
  h1 A1 B1 a f _ fun u A2 B2 s2 e2 => h2 A2 B2 (a.trans s2.kn) s2.le _ fun w A3 B3 s3 e3 => by
    subst e2 e3
    have hE := (a.trans s2.kn).trans s3.kn
    refine ⟨d, y, rfl, ?_, q y A3 B3 (s2.trans s3) rfl⟩
    rw [← hv]
    exact .inr ⟨kvs, ks, b, .inr ⟨od, s3.le _ _ (hE _ _ hd)⟩, rfl, s3.le _ _ (hE _ _ hb), rfl⟩
theorem ev_tupX2 {σ : L2.St} {A : Hp} {t1 t2 : TE} {v1 v2 : V} (h1 : EvP t1 σ A (isV v1)) (h2 : EvP t2 σ A (isV v2)) : EvP (tTup (tCons t1 (tCons t2 tNil))) σ A (HTV [v1, v2]) := fun A1 B1 a b Q k =>
  eap_cons h1 mon_v (eap_cons h2 mon_v eap_nil) A1 B1 a b _ fun vs A2 B2 s r => by
    obtain ⟨u1, u2, rfl, rfl, rfl⟩ := ps_two r
    exact ⟨by show (2 : Nat) ≤ sizeLine; decide, fun x hx => k _ (upd A2 x (.tup _)) _ (s.trans (.new s.le hx)) ⟨x, rfl, upd_same⟩⟩
section
variable {P : Program} {w : World} {K : PySem.W.Frag} {mg : Str → Option Value} {base : Heap} {CR CC : Addr}
set_option maxHeartbeats 2000000 in
theorem ok_l_variant (Bm : Bl mg) (T : Txt K CR CC) (O_l_next : OkF P w K mg base 1 "_law_next" ["_law_state_here", "_law_many"] (sp_l_next K CR CC)) (F : DefF K mg "_law_variant" s_l_variant ["_law_letters_here", "_law_state_here", "_law_parts"]) : OkF P w K mg base 2 "_law_variant" ["_law_letters_here", "_law_state_here", "_law_parts"] (sp_l_variant K CR CC) := by
  refine okF_of F sc_l_variant (fun vs H Q E h => ?_) (fun f cdv Ar outer s H vs Q E hr h => ?_)
  · obtain ⟨A, s, an, L, v, P, rfl, _⟩ := h
    rfl
  · obtain ⟨A0, s, an, L, v, P, rfl, hx, Z0, N, lok, mk, hv0, kk⟩ := h
    have hu := hu_of hr
    refine ⟨_, (pss_cons (ps_asg (pv 2) (gtup_K K (n := 3) rfl (pgs_cons (pg_name (i := 3) sc_l_variant.nd rfl (by first | exact Or.inl rfl | exact Or.inr rfl)) (pgs_cons (pg_name (i := 4) sc_l_variant.nd rfl (by first | exact Or.inl rfl | exact Or.inr rfl)) (pgs_cons (pg_name (i := 5) sc_l_variant.nd rfl (by first | exact Or.inl rfl | exact Or.inr rfl)) pgs_nil)))))
      (pss_cons (ps_set (i := 6) sc_l_variant.nd rfl (Or.inr rfl) (b_len K rfl Bm.m_len (pa_cons (pv 4) pa_nil)))
      (pss_cons (ps_setLc (i := 8) (own := [("_law_k", 7)]) rfl sc_l_variant.nd rfl rfl (sw_true rfl rfl rfl (by decide +kernel)) (pi_range1 rfl Bm.m_range (pa_cons (pv 6) pa_nil)) (blkOk_by (N := N_l_variant) (sc := defScope s_l_variant) (by decide +kernel)) (fun _ _ _ _ _ => (pg_name (i := 7) sc_l_variant.nd rfl (by first | exact Or.inl rfl | exact Or.inr rfl))) (fun _ _ _ _ _ => pts_nil) (fun _ _ _ _ _ => (pe_F O_l_next (hr.mono (by decide)) rfl (pa_cons (pv 1) (pa_cons pe_int pa_nil)))))
      (pss_cons (ps_asg pe_int (pg_sub (pv 8) pe_int set_list))
      (pss_cons (ps_set (i := 9) sc_l_variant.nd rfl (Or.inr rfl) pe_dnewT)
      (pss_cons (ps_for PassesOwn.never rfl (pi_range1 rfl Bm.m_range (pa_cons (pv 6) pa_nil)) (pg_name (i := 7) sc_l_variant.nd rfl (by first | exact Or.inl rfl | exact Or.inr rfl))
       (pss_one (ps_for PassesOwn.never rfl (pi_range1 rfl Bm.m_range (pa_cons (b_len K rfl Bm.m_len (pa_cons (pv 0) pa_nil)) pa_nil)) (pg_name (i := 10) sc_l_variant.nd rfl (by first | exact Or.inl rfl | exact Or.inr rfl))
         (pss_cons (ps_set (i := 11) sc_l_variant.nd rfl (Or.inl rfl) (pe_ix (ix_K K) (pe_ix (ix_K K) (pv 5) (pv 7) (fun _ _ => rfl)) (pv 10) (fun _ _ => rfl)))
          (pss_one (ps_if (pt_cmpR notN_R (pv 11) pe_non (nomark _)) (pss_one (ps_dput hu (pv 9) (pe_tup (pa_cons (pv 7) (pa_cons (pv 10) pa_nil))) (b_min2 K rfl rfl Bm.m_min (pa_cons (b_len K rfl Bm.m_len (pa_cons (pe_ix (ix_K K) (pv 11) pe_int (fun _ _ => rfl)) pa_nil)) (pa_cons (pe_ix (ix_K K) (pv 8) (pe_ix (ix_K K) (pv 11) pe_int (fun _ _ => rfl)) (fun _ _ => rfl)) pa_nil))) rfl)) pss_nil))))))
      (pss_cons (ps_set (i := 12) sc_l_variant.nd rfl (Or.inr rfl) (pe_lc (own := [("_law_k", 7)]) rfl sc_l_variant.nd (pi_range1 rfl Bm.m_range (pa_cons (pv 6) pa_nil)) (blkOk_by (N := N_l_variant) (sc := defScope s_l_variant) (by decide +kernel)) (fun _ _ _ _ _ => (pg_name (i := 7) sc_l_variant.nd rfl (by first | exact Or.inl rfl | exact Or.inr rfl))) (fun _ _ _ _ _ => pts_nil) (fun _ _ _ _ _ => (b_min1 K rfl rfl Bm.m_min (pa_cons (pe_op (plus_K K) (pe_lst (pa_cons pe_int pa_nil)) (pe_lock (pe_lc (own := [("_law_key", 22)]) rfl sc_l_variant.nd (pi_keys (pv 9)) (blkOk_by (N := N_l_variant) (sc := relS _ (defScope s_l_variant)) (by decide +kernel)) (fun _ _ _ _ _ => (pg_name (i := 22) sc_l_variant.nd rfl (by first | exact Or.inl rfl | exact Or.inr rfl))) (fun _ _ _ _ _ => (pts_one (pt_cmpR (eq_K K hr) (pe_ix (ix_K K) (pe_ix (ix_K K) (pe_ix (ix_K K) (pv 5) (pe_ix (ix_K K) (pv 22) pe_int (fun _ _ => rfl)) (fun _ _ => rfl)) (pe_ix (ix_K K) (pv 22) pe_int (fun _ _ => rfl)) (fun _ _ => rfl)) pe_int (fun _ _ => rfl)) (pv 7) (nomark _)))) (fun _ _ _ _ _ => (pe_dget hu (pv 9) (pv 22) (fun _ _ => rfl)))))) pa_nil)))))
      (pss_cons (ps_set (i := 13) sc_l_variant.nd rfl (Or.inl rfl) (pe_lst pa_nil))
      (pss_cons (ps_for PassesOwn.never rfl (pi_range1 rfl Bm.m_range (pa_cons (pv 6) pa_nil)) (pg_name (i := 7) sc_l_variant.nd rfl (by first | exact Or.inl rfl | exact Or.inr rfl))
       (pss_cons (ps_lock (ps_setLc (i := 14) (own := [("_law_key", 22)]) rfl sc_l_variant.nd rfl rfl (sw_true rfl rfl rfl (by decide +kernel)) (pi_keys (pv 9)) (blkOk_by (N := N_l_variant) (sc := defScope s_l_variant) (by decide +kernel)) (fun _ _ _ _ _ => (pg_name (i := 22) sc_l_variant.nd rfl (by first | exact Or.inl rfl | exact Or.inr rfl))) (fun _ _ _ _ _ => (pts_one (pt_cmpR (eq_K K hr) (pe_ix (ix_K K) (pe_ix (ix_K K) (pe_ix (ix_K K) (pv 5) (pe_ix (ix_K K) (pv 22) pe_int (fun _ _ => rfl)) (fun _ _ => rfl)) (pe_ix (ix_K K) (pv 22) pe_int (fun _ _ => rfl)) (fun _ _ => rfl)) pe_int (fun _ _ => rfl)) (pv 7) (nomark _)))) (fun _ _ _ _ _ => (pe_ix (ix_K K) (pe_ix (ix_K K) (pe_ix (ix_K K) (pv 5) (pe_ix (ix_K K) (pv 22) pe_int (fun _ _ => rfl)) (fun _ _ => rfl)) (pe_ix (ix_K K) (pv 22) pe_int (fun _ _ => rfl)) (fun _ _ => rfl)) pe_int (fun _ _ => rfl)))))
        (pss_cons (ps_set (i := 16) sc_l_variant.nd rfl (Or.inr rfl) (pe_lc (own := [("_law_row_here", 15)]) rfl sc_l_variant.nd (list_K K (pv 14)) (blkOk_by (N := N_l_variant) (sc := defScope s_l_variant) (by decide +kernel)) (fun _ _ _ _ _ => (pg_name (i := 15) sc_l_variant.nd rfl (by first | exact Or.inl rfl | exact Or.inr rfl))) (fun _ _ _ _ _ => pts_nil) (fun _ _ _ _ _ => (pe_slice (sl_K K) (pv 15) (po_some (pe_op op_sub (b_len K rfl Bm.m_len (pa_cons (pv 15) pa_nil)) (pe_ix (ix_K K) (pv 12) (pv 7) (fun _ _ => rfl)))) po_none))))
        (pss_one (ps_expr (bm_K K PySem.F.plainAttrs_list PySem.F.slot_list_append PySem.F.type_list_append mt_append (pv 13) (pa_cons (pe_ifExp (PW.pt (pw_and (pt_cmpR op_gt (pv 7) pe_int (nomark _)) (pw_and (pt_cmpR (ne_K K hr) (pv 16) (pe_lst pa_nil) (nomark _)) (pw_and1 (pt_cmpR (eq_K K hr) (pe_lc (own := [("_law_end", 24)]) rfl sc_l_variant.nd (list_K K (pv 16)) (blkOk_by (N := N_l_variant) (sc := defScope s_l_variant) (by decide +kernel)) (fun _ _ _ _ _ => (pg_name (i := 24) sc_l_variant.nd rfl (by first | exact Or.inl rfl | exact Or.inr rfl))) (fun _ _ _ _ _ => (pts_one (pt_cmpR (ne_K K hr) (pv 24) (pe_ix (ix_K K) (pv 16) pe_int (fun _ _ => rfl)) (nomark _)))) (fun _ _ _ _ _ => (pv 24))) (pe_lst pa_nil) (nomark _)))))) (pe_ix (ix_K K) (pv 16) pe_int (fun _ _ => rfl)) pe_str) pa_nil)))))))
      (pss_cons (ps_set (i := 17) sc_l_variant.nd rfl (Or.inl rfl) (pe_listRg rfl rfl Bm.m_list (prg_1 rfl Bm.m_range (pv 6))))
      (pss_cons (ps_for PassesOwn.never rfl (pi_range2 rfl Bm.m_range (pa_cons pe_int (pa_cons (pv 6) pa_nil))) (pg_name (i := 7) sc_l_variant.nd rfl (by first | exact Or.inl rfl | exact Or.inr rfl))
       (pss_cons (ps_set (i := 18) sc_l_variant.nd rfl (Or.inl rfl) (pe_op (plus_K K) pe_int (pe_F O_l_next (hr.mono (by decide)) rfl (pa_cons (pv 1) (pa_cons (pe_op op_sub (pv 6) pe_int) pa_nil)))))
        (pss_one (ps_asg (pe_tup (pa_cons (pe_ix (ix_K K) (pv 17) (pv 18) (fun _ _ => rfl)) (pa_cons (pe_ix (ix_K K) (pv 17) (pv 7) (fun _ _ => rfl)) pa_nil))) (gtup_K K (n := 2) rfl (pgs_cons (pg_sub (pv 17) (pv 7) set_list) (pgs_cons (pg_sub (pv 17) (pv 18) set_list) pgs_nil)))))))
      (pss_cons (ps_set (i := 19) sc_l_variant.nd rfl (Or.inl rfl) (pe_lst pa_nil))
      (pss_cons (ps_set (i := 20) sc_l_variant.nd rfl (Or.inl rfl) (pe_lst pa_nil))
      (pss_cons (ps_for PassesOwn.never rfl (list_K K (pv 17)) (pg_name (i := 7) sc_l_variant.nd rfl (by first | exact Or.inl rfl | exact Or.inr rfl))
       (pss_cons (ps_expr (bm_K K PySem.F.plainAttrs_list PySem.F.slot_list_append PySem.F.type_list_append mt_append (pv 19) (pa_cons (pe_ifExp (pt_cmpR isN_R (pe_ix (ix_K K) (pv 4) (pv 7) (fun _ _ => rfl)) pe_non (nomark _)) pe_non (pe_op (plus_K K) (pe_ix (ix_K K) (pv 13) (pv 7) (fun _ _ => rfl)) (pe_ix (ix_K K) (pv 4) (pv 7) (fun _ _ => rfl)))) pa_nil)))
        (pss_cons (ps_set (i := 15) sc_l_variant.nd rfl (Or.inl rfl) (pe_lst pa_nil))
        (pss_cons (ps_for PassesOwn.never rfl (list_K K (pe_ix (ix_K K) (pv 5) (pv 7) (fun _ _ => rfl))) (pg_name (i := 11) sc_l_variant.nd rfl (by first | exact Or.inl rfl | exact Or.inr rfl))
         (pss_one (ps_if (pt_cmpR isN_R (pv 11) pe_non (nomark _)) (pss_one (ps_expr (bm_K K PySem.F.plainAttrs_list PySem.F.slot_list_append PySem.F.type_list_append mt_append (pv 15) (pa_cons (pe_ifExp (pt_cmpR (eq_K K hr) (pe_F O_l_next (hr.mono (by decide)) rfl (pa_cons (pv 1) (pa_cons pe_int pa_nil))) pe_int (nomark _)) (pe_tup (pa_cons (pv 6) (pa_cons (pe_ix (ix_K K) (pv 0) pe_int (fun _ _ => rfl)) pa_nil))) pe_non) pa_nil)))) (pss_cons (ps_set (i := 21) sc_l_variant.nd rfl (Or.inl rfl) (pe_slice (sl_K K) (pe_ix (ix_K K) (pv 11) pe_int (fun _ _ => rfl)) po_none (po_some (pe_op op_sub (b_len K rfl Bm.m_len (pa_cons (pe_ix (ix_K K) (pv 11) pe_int (fun _ _ => rfl)) pa_nil)) (b_len K rfl Bm.m_len (pa_cons (pe_ix (ix_K K) (pv 13) (pe_ix (ix_K K) (pv 11) pe_int (fun _ _ => rfl)) (fun _ _ => rfl)) pa_nil))))))
            (pss_one (ps_expr (bm_K K PySem.F.plainAttrs_list PySem.F.slot_list_append PySem.F.type_list_append mt_append (pv 15) (pa_cons (pe_tup (pa_cons (bm_K K PySem.F.plainAttrs_list PySem.F.slot_list_index PySem.F.type_list_index (lindex_K K) (pv 17) (pa_cons (pe_ix (ix_K K) (pv 11) pe_int (fun _ _ => rfl)) pa_nil)) (pa_cons (pe_op (plus_K K) (pe_ix (ix_K K) (pv 13) (pv 7) (fun _ _ => rfl)) (pv 21)) pa_nil))) pa_nil))))))))
        (pss_one (ps_expr (bm_K K PySem.F.plainAttrs_list PySem.F.slot_list_append PySem.F.type_list_append mt_append (pv 20) (pa_cons (pv 15) pa_nil))))))))
      (pss_one (ps_ret (pe_tup (pa_cons (pv 3) (pa_cons (pe_op (plus_K K) (pv 19) (pe_lst (pa_cons pe_non pa_nil))) (pa_cons (pe_op (plus_K K) (pv 20) (pe_lst (pa_cons (pe_lc (own := [("_law_letter", 23)]) rfl sc_l_variant.nd (pi_str (pv 0)) (blkOk_by (N := N_l_variant) (sc := defScope s_l_variant) (by decide +kernel)) (fun _ _ _ _ _ => (pg_name (i := 23) sc_l_variant.nd rfl (by first | exact Or.inl rfl | exact Or.inr rfl))) (fun _ _ _ _ _ => pts_nil) (fun _ _ _ _ _ => (pe_tup (pa_cons (pv 6) (pa_cons pe_str pa_nil))))) pa_nil))) pa_nil)))))))))))))))))))), ?_⟩
    have S0 : Tot (fun a => a = s) A0 H A0 H := .refl hx
    obtain ⟨pl0, hHs⟩ := Z0.2
    have l1 := lok.pos
    have l2 := lok.two
    have wf := mk.wf
    have npos := mk.pos
    have nmax := mk.max
    have nlen := mk.len
    have hv : Dp K A0 v (.tuple [.str P.lead, .list (P.fin.map eS), .list (P.tab.map eRL)]) := hv0
    -- A
    refine s_unp (K := K) S0 (ds := [.str P.lead, .list (P.fin.map eS), .list (P.tab.map eRL)]) (ev_var rfl hv) rfl fun vs A1 B1 s1 S1 p1 => ?_
    obtain ⟨v3, v4, v5, rfl, d3, d4, d5⟩ := da_three p1
    refine ⟨v3, [v4, v5], rfl, v4, [v5], rfl, v5, [], rfl, rfl, ?_⟩
    have ev := dp_str d3
    subst ev
    have Z1 := Z0.go s1
    have N1 := N.mono s1.kn
    walk_at "nx"
    refine s_asg (K := K) (d := .int (P.fin.length : Nat)) S1 (ev_is (ev_len (d := .list (P.fin.map eS)) (by walk_at "ev") rfl) (by rw [List.length_map])) fun vv A2 B2 s2 S2 p2 => ?_
    have ev := dp_int p2
    subst ev
    have Z2 := Z1.go s2
    have N2 := N1.mono s2.kn
    walk_at "nx"
    -- B
    refine z_asg S2 Z2 (evs_lcI (K := K) (Pe := fun _ _ v => ∃ r : Nat, r < 3 ∧ v = .int (r : Nat)) (List.range P.fin.length) (fun i => .int (i : Nat)) (src_range1 (by walk_at "ev") (by omega)) (by rw [List.length_range]; omega) (fun _ _ _ _ _ h => h) fun a ha x A B e f p => ⟨_, g_name, rfl, evs_next (CR := CR) (CC := CC) (m := 3) (N2.mono e) rfl (by walk_at "ev") (by decide) (by decide)⟩) fun v8 A3 B3 s3 S3 Z3 p3 => ?_
    obtain ⟨l8, us8, rfl, h80, h8, hl8, hp8⟩ := p3
    rw [List.length_range] at hl8
    obtain ⟨lt0, rfl, hlt0⟩ := nat_list (us := us8) (m := 3) fun u hu => by
      obtain ⟨i, hi⟩ := List.getElem?_of_mem hu
      have hil := (List.getElem?_eq_some_iff.mp hi).1
      exact hp8 i u i hi (by rw [List.getElem?_range (by omega)])
    rw [List.length_map] at hl8
    have h80' : A0 l8 = none := ex_none (s1.kn.trans s2.kn) h80
    walk_at "nx"
    refine z_set (l := l8) (us := lt0.map (fun r => V.int (r : Nat))) (k := 0) S3 Z3 h80' h8 (P := isV (.int 0)) ev_cv (ev_varP rfl fun _ _ => rfl) ev_cv (by rw [List.length_map]; omega) fun vv A4 B4 s4 p4 S4 Z4 => ?_
    subst p4
    have hset : (lt0.map (fun r => V.int (r : Nat))).set 0 (.int 0) = (lt0.set 0 0).map (fun r => V.int (r : Nat)) := by rw [List.map_set]; rfl
    rw [hset] at S4 Z4
    rw [hset]
    have hltl : (lt0.set 0 0).length = P.fin.length := by rw [List.length_set]; exact hl8
    generalize lt0.set 0 0 = lt at *
    have hlA : (upd A4 l8 (.lst (lt.map (fun r => V.int (r : Nat))))) l8 = some (.lst (lt.map (fun r => V.int (r : Nat)))) := upd_same
    have e25 : Ex A2 (upd A4 l8 (.lst (lt.map (fun r => V.int (r : Nat))))) := fun a u z => by
      have e : a ≠ l8 := fun e => by rw [e, h80] at z; cases z
      rw [upd_ne e]
      exact (s3.kn.trans s4.kn) _ _ z
    have N5 := N2.mono e25
    have e15 := s2.kn.trans e25
    have hA8 : (upd A4 l8 (.lst (lt.map (fun r => V.int (r : Nat))))) l8 = some (.lst (lt.map (fun r => V.int (r : Nat)))) := upd_same
    generalize upd A4 l8 (.lst (lt.map (fun r => V.int (r : Nat)))) = A5 at *
    generalize upd B4 l8 (.lst (lt.map (fun r => V.int (r : Nat)))) = B5 at *
    have hway : ∀ (σ : L2.St) (A : Hp) (k j : Nat) (tk tj : TE), σ[5]? = some (some v5) → Ex A5 A → EvD K tk σ A (.int (k : Nat)) → EvD K tj σ A (.int (j : Nat)) → k < P.fin.length → j < L.length → EvD K (tOp (rIx K) (tOp (rIx K) (tVar 5) tk) tj) σ A (eW (wayAt P (k : Nat) j)) := by
      intro σ A k j tk tj h5 e hk hj hkn hjl
      obtain ⟨r, hr1, hr2⟩ := wf.tabAt (s := (k : Int)) (by omega) (by omega)
      exact ev_ixL (ds := r.map eW) (j := j) (ev_ixL (d := eRL r) (ds := P.tab.map eRL) (j := k) (ev_var h5 (dp_mono (e15.trans e) d5)) hk rfl (at_map hr1)) hj rfl (at_map (wf.wayIs (s := (k : Int)) hr1 (by omega)))
    have hlate : ∀ (σ : L2.St) (A : Hp) (t : Nat) (ti : TE), σ[8]? = some (some (.ref l8)) → Ex A5 A → EvD K ti σ A (.int (t : Nat)) → t < P.fin.length → ∃ c : Nat, lt[t]? = some c ∧ EvD K (tOp (rIx K) (tVar 8) ti) σ A (.int (c : Nat)) := by
      intro σ A t ti h8 e ht htn
      obtain ⟨c, hc⟩ : ∃ c, lt[t]? = some c := ⟨_, List.getElem?_eq_getElem (by omega)⟩
      refine ⟨c, hc, EvP.imp (ev_ixX (K := K) (l := l8) (j := t) (ev_varP h8 fun _ _ => rfl) (e _ _ hA8) ht rfl (by rw [List.getElem?_map, hc]; rfl)) fun A v _ p => by rw [p]; exact .int _⟩
    walk_at "nx"
    -- C
    refine fun p9 hn9 => ?_
    obtain ⟨S6, O6⟩ := S4.newU (o := .dT []) hn9
    have hds : p9 ≠ s := O6.nes hHs
    have Z6 := Z4.putO (o := .dT []) hds
    dsimp only [gName, tSeq, tNext]
    refine st_for (K := K) (xs := List.range P.fin.length) (enc := fun i => .int (i : Nat)) (src_range1 (by walk_at "ev") (by omega)) S6.le fun A6 B6 s6 => ⟨fun i σ A B => ∃ (kvs : List (List Key × V)) (z7 z10 z11 : Option V), σ = [some (.str L), some (.ref s), some v, some (.str P.lead), some v4, some v5, some (.int (P.fin.length : Nat)), z7, some (.ref l8), some (.ref p9), z10, z11, none, none, none, none, none, none, none, none, none, none, none, none, none] ∧ Tot (fun a => a = s) A0 H A B ∧ SS s an A B ∧ Own A0 H A B p9 (.dT kvs) ∧ CutA L P kvs ∧ CutB L P kvs i 0 ∧ kvs.length ≤ i * 2, ⟨[], _, _, _, rfl, S6.go s6, Z6.go s6, O6.go s6, (fun p h => nomatch h), (fun k j t x hw hj hlt => by rcases hlt with h | ⟨_, h⟩ <;> exact absurd h (Nat.not_lt_zero _)), by simp⟩, ?_, ?_⟩
    · rintro i k x σ' A B A7 B7 hi hA hB ⟨kvs, z7, z10, z11, rfl, S7, Z7, O7, hcA, hcB, hcl⟩ s7 px
      have S8 := S7.go s7
      have Z8 := Z7.go s7
      have O8 := O7.go s7
      have ex := dp_int px
      subst ex
      have hin : i < P.fin.length := by
        have := (List.getElem?_eq_some_iff.mp hi).1
        rw [List.length_range] at this
        exact this
      have ek : k = i := by
        rw [range_at hin] at hi
        exact (Option.some.inj hi).symm
      subst ek
      dsimp only [gName]
      refine st_for (K := K) (xs := List.range L.length) (enc := fun i => .int (i : Nat)) (src_range1 (ev_len (d := .str L) (by walk_at "ev") (if_pos (by omega))) (by omega)) S8.le fun A9 B9 s9 => ⟨fun j σ A B => ∃ (kvs : List (List Key × V)) (z10 z11 : Option V), σ = [some (.str L), some (.ref s), some v, some (.str P.lead), some v4, some v5, some (.int (P.fin.length : Nat)), some (.int (k : Nat)), some (.ref l8), some (.ref p9), z10, z11, none, none, none, none, none, none, none, none, none, none, none, none, none] ∧ Tot (fun a => a = s) A0 H A B ∧ SS s an A B ∧ Own A0 H A B p9 (.dT kvs) ∧ CutA L P kvs ∧ CutB L P kvs k j ∧ kvs.length ≤ k * 2 + j, ⟨kvs, _, _, rfl, S8.go s9, Z8.go s9, O8.go s9, hcA, hcB, by omega⟩, ?_, ?_⟩
      · rintro j jj x σ' A' B' A10 B10 hj hA' hB' ⟨kvs, z10, z11, rfl, S9, Z9, O9, hcA, hcB, hcl⟩ s10 px
        have S10 := S9.go s10
        have Z10 := Z9.go s10
        have O10 := O9.go s10
        have ex := dp_int px
        subst ex
        have hjl : j < L.length := by
          have := (List.getElem?_eq_some_iff.mp hj).1
          rw [List.length_range] at this
          exact this
        have ej : jj = j := by
          rw [range_at hjl] at hj
          exact (Option.some.inj hj).symm
        subst ej
        have hE : Ex A5 A10 := ((((s6.kn.trans hA).trans s7.kn).trans s9.kn).trans hA').trans s10.kn
        dsimp only [gName]
        refine s_asg (K := K) (d := eW (wayAt P (k : Nat) jj)) S10 (hway _ _ k jj _ _ rfl hE (by walk_at "ev") (by walk_at "ev") hin hjl) fun v11 A11 B11 s11 S11 p11 => ?_
        have Z11 := Z10.go s11
        have O11 := O10.go s11
        have hwt := fun t x => mk.wayWo (k := k) (j := jj) (t := t) (x := x)
        cases hw : wayAt P (k : Nat) jj with
        | none =>
          rw [hw] at p11
          walk_at "nx"
          refine s_if (K := K) (b := false) S11 (et_test (ev_is1 (d := .none) (ev_var rfl p11) (by walk_at "ev") rfl)) (fun z => nomatch z) (fun _ A12 B12 s12 S12 => ?_)
          exact ⟨A12, ((hA'.trans s10.kn).trans s11.kn).trans s12.kn, S12.le, kvs, _, _, rfl, S12, Z11.go s12, O11.go s12, hcA, hcB.skip hw, by omega⟩
        | some tx =>
          obtain ⟨t, x⟩ := tx
          obtain ⟨ht, hx2⟩ := hwt t x hw
          have hxl := hx2.len
          rw [hw] at p11
          replace p11 : Dp K A11 v11 (.tuple [.int (t : Nat), .str x]) := p11
          walk_at "nx"
          refine s_if (K := K) (b := true) S11 (et_test (ev_is1 (d := .tuple [.int (t : Nat), .str x]) (ev_var rfl p11) (by walk_at "ev") rfl)) (fun _ A12 B12 s12 S12 => ?_) (fun z => nomatch z)
          have Z12 := Z11.go s12
          have O12 := O11.go s12
          obtain ⟨c, hc, hce⟩ := hlate [some (.str L), some (.ref s), some v, some (.str P.lead), some v4, some v5, some (.int (P.fin.length : Nat)), some (.int (k : Nat)), some (.ref l8), some (.ref p9), some (.int (jj : Nat)), some v11, none, none, none, none, none, none, none, none, none, none, none, none, none] A12 t (tOp (rIx K) (tVar 11) (tC (.int 0))) rfl ((hE.trans s11.kn).trans s12.kn) (by walk_at "ev") ht
          refine st_dputT (ks := ck k jj) (y := .int ((min x.length c : Nat) : Int)) (ev_vint (K := K) (ev_is (ev_min2 (ev_len (d := .str x) (by walk_at "ev") (if_pos (by omega))) hce) (by congr 1; split <;> omega))) rfl (ev_tupX2 (by walk_at "ref") (by walk_at "ref")) S12 O12 (by omega) fun A13 B13 s13 S13 O13 => ?_
          refine ⟨A13, (((hA'.trans s10.kn).trans s11.kn).trans s12.kn).trans s13.kn, S13.le, _, _, _, rfl, S13, (Z12.go s13).putO hds, O13, hcA.put hin hjl hw (by omega), hcB.put, ?_⟩
          have := length_putK kvs (ck k jj) (.int ((min x.length c : Nat) : Int))
          omega
      · rintro σ' A' B' hA' hB' ⟨kvs, z10, z11, rfl, S9, Z9, O9, hcA, hcB, hcl⟩
        rw [List.length_range] at hcl hcB
        refine ⟨A', ((hA.trans s7.kn).trans s9.kn).trans hA', hB', kvs, _, _, _, rfl, S9, Z9, O9, hcA, fun k' j' t x hw hj' hlt => ?_, by omega⟩
        refine hcB k' j' t x hw hj' ?_
        rcases hlt with h | ⟨_, h⟩
        · by_cases e : k' = k
          · exact .inr ⟨e, hj'⟩
          · exact .inl (by omega)
        · exact absurd h (Nat.not_lt_zero _)
    · rintro σ' A B hA hB ⟨kvs, z7, z10, z11, rfl, S7, Z7, O7, hcA, hcB, hcl⟩
      rw [List.length_range] at hcl hcB
      have hcov : ∀ k j t x, wayAt P (k : Nat) j = some (t, x) → k < P.fin.length → j < L.length → ∃ y, valV kvs (ck k j) = some y := fun k j t x hw hk hj => hcB k j t x hw hj (.inl hk)
      have hE7 : Ex A5 A := s6.kn.trans hA
      walk_at "nx"
      -- D
      have h59 : A5 p9 = none := O6.unk
      have hkl : kvs.length ≤ 6 := by omega
      obtain ⟨Sf, ef⟩ := S7.frz O7
      have hE5f : Ex A5 (upd A p9 (.dT kvs)) := hE7.trans ef
      -- what a key tells
      have hkey : ∀ (p : List Key × V), p ∈ kvs → ∀ (σ : L2.St) (q : Addr) (Aq : Hp), σ[5]? = some (some v5) → σ[22]? = some (some (.ref q)) → Ex A5 Aq → Aq q = some (.tup (p.1.map kV)) → ∃ (a b t c : Nat) (x : Str), p.1 = ck a b ∧ a < P.fin.length ∧ b < L.length ∧ wayAt P (a : Nat) b = some (t, x) ∧ valV kvs p.1 = some (.int (c : Nat)) ∧ c ≤ x.length ∧ EvD K (tOp (rIx K) (tOp (rIx K) (tVar 5) (tOp (rIx K) (tVar 22) (tC (.int 0)))) (tOp (rIx K) (tVar 22) (tC (.int 1)))) σ Aq (.tuple [.int (t : Nat), .str x]) := by
        intro p hp σ q Aq h5 h22 e hq
        obtain ⟨a, b, t, c, x, e1, ha, hb, hw, hv', hc⟩ := hcA.val hp
        refine ⟨a, b, t, c, x, e1, ha, hb, hw, hv', hc, ?_⟩
        rw [e1] at hq
        have dq : Dp K Aq (.ref q) (.tuple [.int (a : Nat), .int (b : Nat)]) := .tup (SqT.of hq) (.cons (.int _) (.cons (.int _) .nil))
        have hh := hway σ Aq a b (tOp (rIx K) (tVar 22) (tC (.int 0))) (tOp (rIx K) (tVar 22) (tC (.int 1))) h5 e (ev_ixT (ds := [.int (a : Nat), .int (b : Nat)]) (j := 0) (ev_var h22 dq) (ev_c fun _ => .int _) rfl rfl) (ev_ixT (ds := [.int (a : Nat), .int (b : Nat)]) (j := 1) (ev_var h22 dq) (ev_c fun _ => .int _) rfl rfl) ha hb
        rw [hw] at hh
        exact hh
      have hto : ∀ (p : List Key × V), p ∈ kvs → ∀ (σ : L2.St) (q : Addr) (Aq : Hp) (k : Nat), σ[5]? = some (some v5) → σ[22]? = some (some (.ref q)) → σ[7]? = some (some (.int (k : Nat))) → Ex A5 Aq → Aq q = some (.tup (p.1.map kV)) → EvT K (tTest (tOp (rEqA K) (tOp (rIx K) (tOp (rIx K) (tOp (rIx K) (tVar 5) (tOp (rIx K) (tVar 22) (tC (.int 0)))) (tOp (rIx K) (tVar 22) (tC (.int 1)))) (tC (.int 0))) (tVar 7))) σ Aq (toK P k p) := by
        intro p hp σ q Aq k h5 h22 h7 e hq
        obtain ⟨a, b, t, c, x, e1, ha, hb, hw, hv', hc, hev⟩ := hkey p hp σ q Aq h5 h22 e hq
        obtain ⟨p1, p2⟩ := p
        have e1 : p1 = ck a b := e1
        subst e1
        rw [toK_ck hw]
        exact et_test (ev_eqS (ev_ixT (ds := [.int (t : Nat), .str x]) (j := 0) hev (ev_c fun _ => .int _) rfl rfl) (ev_var h7 (.int _)) rfl)
      have exu : ∀ (A' : Hp) (o : HO), Ex A5 A' → Ex A5 (upd A' p9 o) := fun A' o e a u z => by
        have e2 : a ≠ p9 := fun e2 => by rw [e2, h59] at z; cases z
        rw [upd_ne e2]
        exact e a u z
      have hmin : ∀ (σ : L2.St) (A8 : Hp) (k : Nat), σ[5]? = some (some v5) → σ[9]? = some (some (.ref p9)) → σ[7]? = some (some (.int (k : Nat))) → 22 < σ.length → Ex (upd A p9 (.dT kvs)) A8 → EvP (tCB (rMin K) (tCons (tOp (rPlus K) (tLst (tCons (tC (.int 9)) tNil)) (tLockE (tLc (iKeys (tVar 9)) (gName 22) (tTest (tOp (rEqA K) (tOp (rIx K) (tOp (rIx K) (tOp (rIx K) (tVar 5) (tOp (rIx K) (tVar 22) (tC (.int 0)))) (tOp (rIx K) (tVar 22) (tC (.int 1)))) (tC (.int 0))) (tVar 7))) (tDGet (tVar 9) (tVar 22)) [22]))) tNil)) σ A8 fun _ v => ∃ m : Nat, v = .int (m : Nat) ∧ ∀ k' j x, wayAt P (k' : Nat) j = some (k, x) → k' < P.fin.length → j < L.length → m ≤ x.length := by
        intro σ A8 k h5 h9 h7 hl22 e8
        have hlk := ev_lockK (K := K) (σ := σ) (A0 := A8) (tk := tVar 9) (te := tDGet (tVar 9) (tVar 22)) (tt := tTest (tOp (rEqA K) (tOp (rIx K) (tOp (rIx K) (tOp (rIx K) (tVar 5) (tOp (rIx K) (tVar 22) (tC (.int 0)))) (tOp (rIx K) (tVar 22) (tC (.int 1)))) (tC (.int 0))) (tVar 7))) (g := gName 22) (vs := [22]) (f := toK P k) (val := fun p => V.int (cutI kvs p)) (e8 _ _ upd_same) (by omega) (fun A => ev_varP h9 fun _ _ => rfl) fun A od eA p hp q Aq eq hq => by
          have eq5 : Ex A5 Aq := (exu A _ ((hE5f.trans e8).trans eA)).trans eq
          have hw5 : ∀ i, i ≠ 22 → ((wipe σ [22]).set 22 (some (.ref q)))[i]? = σ[i]? := fun i hi => by
            show ((σ.set 22 none).set 22 (some (.ref q)))[i]? = σ[i]?
            rw [List.getElem?_set_ne (Ne.symm hi), List.getElem?_set_ne (Ne.symm hi)]
          have h22 : ((wipe σ [22]).set 22 (some (.ref q)))[22]? = some (some (.ref q)) := by
            show ((σ.set 22 none).set 22 (some (.ref q)))[22]? = _
            rw [List.getElem?_set_self (by rw [List.length_set]; exact hl22)]
          refine ⟨(wipe σ [22]).set 22 (some (.ref q)), fun B => g_name, ?_, hto p hp _ q Aq k (by rw [hw5 5 (by decide)]; exact h5) h22 (by rw [hw5 7 (by decide)]; exact h7) eq5 hq, fun _ => ?_⟩
          · show ((σ.set 22 none).set 22 (some (.ref q))).set 22 none = σ.set 22 none
            rw [List.set_set, List.set_set]
          · obtain ⟨a, b, t, c, x, e1, ha, hb, hw, hv', hc⟩ := hcA.val hp
            have hci : cutI kvs p = (c : Nat) := by unfold cutI; rw [hv']
            rw [hci]
            exact ev_dgetF (d := p9) (b := q) (ks := p.1) (ev_varP (by rw [hw5 9 (by decide)]; exact h9) fun _ _ => rfl) (ev_varP h22 fun _ _ => rfl) (eq _ _ upd_same) hq hv'
        have hcs : ∀ m ∈ (kvs.filter (toK P k)).map (cutI kvs), 0 ≤ m := fun m hm => by
          rw [List.mem_map] at hm
          obtain ⟨p, hp, rfl⟩ := hm
          obtain ⟨a, b, t, c, x, e1, ha, hb, hw, hv', hc⟩ := hcA.val (List.mem_filter.mp hp).1
          have hci : cutI kvs p = (c : Nat) := by unfold cutI; rw [hv']
          omega
        have hfl : ((kvs.filter (toK P k)).map (cutI kvs)).length ≤ 6 := by
          rw [List.length_map]
          have := List.length_filter_le (toK P k) kvs
          omega
        have hlist : EvD K (tOp (rPlus K) (tLst (tCons (tC (.int 9)) tNil)) (tLockE (tLc (iKeys (tVar 9)) (gName 22) (tTest (tOp (rEqA K) (tOp (rIx K) (tOp (rIx K) (tOp (rIx K) (tVar 5) (tOp (rIx K) (tVar 22) (tC (.int 0)))) (tOp (rIx K) (tVar 22) (tC (.int 1)))) (tC (.int 0))) (tVar 7))) (tDGet (tVar 9) (tVar 22)) [22]))) σ A8 (.list ((9 :: (kvs.filter (toK P k)).map (cutI kvs)).map .int)) := by
          refine (evl_add (K := K) (xs := [.int 9]) (ys := ((kvs.filter (toK P k)).map (cutI kvs)).map .int) (evl_lst (ead_cons (ev_c fun _ => .int _) ead_nil) (Nat.le_of_ble_eq_true rfl)) (EvP.imp hlk fun A v _ pv => ?_) (by rw [List.length_map]; show 1 + _ ≤ _; omega)).dp
          obtain ⟨l, rfl, hl⟩ := pv
          have e : (kvs.filter (toK P k)).map (fun p => V.int (cutI kvs p)) = ((kvs.filter (toK P k)).map (cutI kvs)).map V.int := by rw [List.map_map]; rfl
          rw [e] at hl
          exact ⟨l, _, rfl, hl, da_ints _⟩
        refine EvP.imp (ev_min1 (P := fun m => ∃ mm : Nat, m = mm ∧ ∀ k' j x, wayAt P (k' : Nat) j = some (k, x) → k' < P.fin.length → j < L.length → mm ≤ x.length) hlist (by simp) fun m hm hle => ?_) fun A v _ pv => ?_
        · have h0 : 0 ≤ m := by
            rcases List.mem_cons.mp hm with rfl | h
            · decide
            · exact hcs m h
          refine ⟨m.toNat, by omega, fun k' j x hw hk' hj' => ?_⟩
          obtain ⟨y, hy⟩ := hcov k' j k x hw hk' hj'
          have hmem := valV_mem hy
          obtain ⟨a, b, t, c, x', e1, ha, hb, hw', hv', hc⟩ := hcA.val hmem
          have e1 : ck k' j = ck a b := e1
          unfold ck at e1
          injection e1 with e1 e2
          injection e2 with e2
          injection e1 with e1
          injection e2 with e2
          have e1 : k' = a := by omega
          have e2 : j = b := by omega
          subst e1 e2
          rw [hw] at hw'
          cases hw'
          have hci : cutI kvs (ck k' j, y) = (c : Nat) := by
            have hv' : valV kvs (ck k' j) = some (.int (c : Nat)) := hv'
            unfold cutI
            rw [hv']
          have hin' : (c : Int) ∈ 9 :: (kvs.filter (toK P k)).map (cutI kvs) := by
            refine List.mem_cons_of_mem _ (List.mem_map.mpr ⟨(ck k' j, y), List.mem_filter.mpr ⟨hmem, ?_⟩, hci⟩)
            rw [toK_ck hw]
            exact decide_eq_true rfl
          have := hle _ hin'
          omega
        · obtain ⟨m, rfl, mm, rfl, hm⟩ := pv
          exact ⟨mm, rfl, hm⟩
      refine s_asgX ef Sf.le (evp_lcI (K := K) (Pe := fun k _ v => ∃ m : Nat, v = .int (m : Nat) ∧ ∀ k' j x, wayAt P (k' : Nat) j = some (k, x) → k' < P.fin.length → j < L.length → m ≤ x.length) (List.range P.fin.length) (fun i => .int (i : Nat)) (src_range1 (by walk_at "ev") (by omega)) (by rw [List.length_range]; omega) (fun _ _ _ _ _ h => h) fun k hk x A8 B8 e8 f8 px => ⟨_, g_name, rfl, ?_⟩) S7 fun v12 A10 B10 s10' s10 S10 p10 => ?_
      · have ex := dp_int px
        subst ex
        exact hmin _ A8 k rfl rfl rfl (by show 22 < 25; decide) e8
      obtain ⟨l12, us12, rfl, _, h12, hl12, hp12⟩ := p10
      rw [List.length_range] at hl12
      have hB12 : B l12 = none := by
        cases e : B l12 with
        | none => rfl
        | some u =>
          have := s10'.sp l12 (by rw [e]; simp) ‹_›
          rw [this] at h12
          cases h12
      have O12 : Own A0 H A B10 l12 (.lst us12) := ⟨s10'.le _ _ h12, (by
        cases q : H l12 with
        | none => rfl
        | some u => exact absurd hB12 (S7.s.th l12 (by rw [q]; simp))), ex_none S7.le hB12⟩
      have O9' := O7.go s10
      have Z10' := Z7.go s10
      obtain ⟨S11, e11⟩ := S10.frz O12
      have hne12 : p9 ≠ l12 := fun e => by rw [← e, O7.at_] at hB12; cases hB12
      have O11 := O9'.frzO (o' := .lst us12) hne12
      have Z11 := Z10'.frz (o := .lst us12) (O12.nes hHs)
      have hA12 : (upd A l12 (.lst us12)) l12 = some (.lst us12) := upd_same
      have hE11 : Ex A5 (upd A l12 (.lst us12)) := hE7.trans e11
      generalize upd A l12 (.lst us12) = A11 at *
      have hleast : ∀ (σ : L2.St) (A' : Hp) (k : Nat), σ[12]? = some (some (.ref l12)) → σ[7]? = some (some (.int (k : Nat))) → k < P.fin.length → Ex A11 A' → ∃ m : Nat, EvD K (tOp (rIx K) (tVar 12) (tVar 7)) σ A' (.int (m : Nat)) ∧ us12[k]? = some (.int (m : Nat)) ∧ ∀ k' j x, wayAt P (k' : Nat) j = some (k, x) → k' < P.fin.length → j < L.length → m ≤ x.length := by
        intro σ A' k h σ7 hk e
        obtain ⟨u, hu⟩ : ∃ u, us12[k]? = some u := ⟨_, List.getElem?_eq_getElem (by omega)⟩
        obtain ⟨m, rfl, hm⟩ := hp12 k u k hu (List.getElem?_range (by omega))
        exact ⟨m, EvP.imp (ev_ixX (K := K) (l := l12) (j := k) (ev_varP h fun _ _ => rfl) (e _ _ hA12) (ev_var σ7 (.int _)) rfl hu) fun A v _ p => by rw [p]; exact .int _, hu, hm⟩
      walk_at "nx"
      -- E
      refine st_new0 S11 fun l13 S12 O13 hn13 => ?_
      have hls13 := O13.nes hHs
      have Z12 := Z11.putO (o := .lst []) hls13
      have hne13 : p9 ≠ l13 := O11.ne hn13
      have O12' := O11.other (o' := .lst []) hne13
      walk_at "nx"
      refine st_for (K := K) (xs := List.range P.fin.length) (enc := fun i => .int (i : Nat)) (src_range1 (by walk_at "ev") (by omega)) S12.le fun A13 B13 s13 => ⟨fun i σ A B => ∃ (mvs : List Str) (z7 z14 z15 z16 : Option V), σ = [some (.str L), some (.ref s), some v, some (.str P.lead), some v4, some v5, some (.int (P.fin.length : Nat)), z7, some (.ref l8), some (.ref p9), z10, z11, some (.ref l12), some (.ref l13), z14, z15, z16, none, none, none, none, none, none, none, none] ∧ Tot (fun a => a = s) A0 H A B ∧ SS s an A B ∧ Own A0 H A B p9 (.dT kvs) ∧ Own A0 H A B l13 (.lst (mvs.map V.str)) ∧ mvs.length = i ∧ (∀ m ∈ mvs, Wo L m) ∧ (∀ m : Str, mvs[0]? = some m → m = "") ∧ ∀ (k j t : Nat) (x m : Str), wayAt P (k : Nat) j = some (t, x) → k < P.fin.length → j < L.length → mvs[t]? = some m → ∃ y, x = y ++ m, ⟨[], _, _, _, _, rfl, S12.go s13, Z12.go s13, O12'.go s13, O13.go s13, rfl, (fun _ h => nomatch h), (fun m h => by simp at h), fun k j t x m _ _ _ h => by simp at h⟩, ?_, ?_⟩
      · rintro i k x σ' A' B' A14 B14 hi hA' hB' ⟨mvs, z7, z14, z15, z16, rfl, S13, Z13, O9, O13, hml, hmw, hm0, hms⟩ s14 px
        have S14 := S13.go s14
        have Z14 := Z13.go s14
        have O9 := O9.go s14
        have O13 := O13.go s14
        have ex := dp_int px
        subst ex
        have hin : i < P.fin.length := by
          have := (List.getElem?_eq_some_iff.mp hi).1
          rw [List.length_range] at this
          exact this
        have ek : k = i := by
          rw [range_at hin] at hi
          exact (Option.some.inj hi).symm
        subst ek
        have hE14 : Ex A11 A14 := (s13.kn.trans hA').trans s14.kn
        dsimp only [gName]
        have hE14' : Ex A5 A14 := hE11.trans hE14
        have hlockE : ∀ (od : Obj) (Aq : Hp), Ex (upd A14 p9 (.frz od (.dT kvs))) Aq → Ex A5 Aq := fun od Aq e => (exu A14 _ hE14').trans e
        refine st_lockK (K := K) (f := toK P k) (val := fun p => V.str (cutX P p)) S14 O9 (by omega) (fun A => ev_varP rfl fun _ _ => rfl) (fun od p hp q Aq eq hq => ⟨_, fun B => g_name, rfl, hto p hp _ q Aq k rfl rfl rfl (hlockE od Aq eq) hq, fun _ => ?_⟩) fun l14 B15 s15 S15 O14 hB14 => ?_
        · obtain ⟨a, b, t, c, x, e1, ha, hb, hw, hv', hc, hev⟩ := hkey p hp [some (.str L), some (.ref s), some v, some (.str P.lead), some v4, some v5, some (.int (P.fin.length : Nat)), some (.int (k : Nat)), some (.ref l8), some (.ref p9), z10, z11, some (.ref l12), some (.ref l13), z14, z15, z16, none, none, none, none, none, some (.ref q), none, none] q Aq rfl rfl (hlockE od Aq eq) hq
          obtain ⟨p1, p2⟩ := p
          have e1 : p1 = ck a b := e1
          subst e1
          rw [cutX_ck hw]
          exact ev_vstr (ev_ixT (ds := [.int (t : Nat), .str x]) (j := 1) hev (ev_c fun _ => .int _) rfl rfl)
        have exs : (kvs.filter (toK P k)).map (fun p => V.str (cutX P p)) = ((kvs.filter (toK P k)).map (cutX P)).map V.str := by rw [List.map_map]; rfl
        rw [exs] at O14
        have hxs1 : ∀ x ∈ (kvs.filter (toK P k)).map (cutX P), ∃ a b, a < P.fin.length ∧ b < L.length ∧ wayAt P (a : Nat) b = some (k, x) := by
          intro x hx
          rw [List.mem_map] at hx
          obtain ⟨p, hp, rfl⟩ := hx
          rw [List.mem_filter] at hp
          obtain ⟨a, b, t, c, x, e1, ha, hb, hw, hv', hc⟩ := hcA.val hp.1
          obtain ⟨p1, p2⟩ := p
          have e1 : p1 = ck a b := e1
          subst e1
          have ht := hp.2
          rw [toK_ck hw] at ht
          have ht := of_decide_eq_true ht
          have ht : t = k := by omega
          subst ht
          rw [cutX_ck hw]
          exact ⟨a, b, ha, hb, hw⟩
        have hxs2 : ∀ a b x, wayAt P (a : Nat) b = some (k, x) → a < P.fin.length → b < L.length → x ∈ (kvs.filter (toK P k)).map (cutX P) := by
          intro a b x hw ha hb
          obtain ⟨y, hy⟩ := hcov a b k x hw ha hb
          rw [List.mem_map]
          refine ⟨(ck a b, y), List.mem_filter.mpr ⟨valV_mem hy, ?_⟩, cutX_ck hw⟩
          rw [toK_ck hw]
          exact decide_eq_true rfl
        have hxsl : ((kvs.filter (toK P k)).map (cutX P)).length ≤ 6 := by
          rw [List.length_map]
          have := List.length_filter_le (toK P k) kvs
          omega
        generalize (kvs.filter (toK P k)).map (cutX P) = xs at *
        have Z15 := Z14.go s15
        have hn13 : l13 ≠ l14 := fun e => by rw [← e, O13.at_] at hB14; cases hB14
        have hn9 : p9 ≠ l14 := fun e => by rw [← e, O9.at_] at hB14; cases hB14
        have O9 := O9.go s15
        have O13 := O13.go s15
        have hls14 := O14.nes hHs
        obtain ⟨S16, e16⟩ := S15.frz O14
        have Z16 := Z15.frz (o := .lst (xs.map V.str)) hls14
        have O9 := O9.frzO (o' := .lst (xs.map V.str)) hn9
        have O13 := O13.frzO (o' := .lst (xs.map V.str)) hn13
        have dxs : Dp K (upd A14 l14 (.lst (xs.map V.str))) (.ref l14) (.list (xs.map .str)) := .lst (SqL.of upd_same) (da_strs xs)
        generalize upd A14 l14 (.lst (xs.map V.str)) = A16 at *
        have hE16 : Ex A11 A16 := hE14.trans e16
        obtain ⟨m, hme, hmu, hmle⟩ := hleast [some (.str L), some (.ref s), some v, some (.str P.lead), some v4, some v5, some (.int (P.fin.length : Nat)), some (.int (k : Nat)), some (.ref l8), some (.ref p9), z10, z11, some (.ref l12), some (.ref l13), some (.ref l14), z15, z16, none, none, none, none, none, none, none, none] A16 k rfl rfl hin hE16
        have hxle : ∀ x ∈ xs, m ≤ x.length ∧ Wo L x := fun x hx => by
          obtain ⟨a, b, ha, hb, hw⟩ := hxs1 x hx
          exact ⟨hmle a b x hw ha hb, (mk.wayWo hw).2⟩
        walk_at "nx"
        refine s_asg (K := K) (d := .list ((xs.map fun x => dropS x (x.length - m)).map .str)) S16 ?_ fun v16 A17 B17 s17 S17 p17 => ?_
        · rw [List.map_map]
          refine ev_lc0 xs .str (fun x => .str (dropS x (x.length - m))) (src_list (ev_var rfl dxs)) (by omega) fun x hx y A B e f py => ⟨_, g_name, rfl, ?_⟩
          obtain ⟨h1, h2⟩ := hxle x hx
          have h3 := h2.len
          obtain ⟨m2, hme2, hmu2, _⟩ := hleast [some (.str L), some (.ref s), some v, some (.str P.lead), some v4, some v5, some (.int (P.fin.length : Nat)), some (.int (k : Nat)), some (.ref l8), some (.ref p9), z10, z11, some (.ref l12), some (.ref l13), some (.ref l14), some y, z16, none, none, none, none, none, none, none, none] A k rfl rfl hin (hE16.trans e)
          rw [hmu] at hmu2
          have e2 : m2 = m := by
            injection hmu2 with hmu2
            injection hmu2 with hmu2
            omega
          subst e2
          refine ev_is (ev_slS (z := x) (lo := some ((x.length - m2 : Nat) : Int)) (hi := none) (ev_var rfl py) (eo_some (ev_is (ev_subI (i := (x.length : Nat)) (j := (m2 : Nat)) (ev_len (d := .str x) (ev_var rfl py) (if_pos (by omega))) hme2) (by congr 1; omega))) eo_none (by omega)) (by rw [cutS_from])
        have Z17 := Z16.go s17
        have O9 := O9.go s17
        have O13 := O13.go s17
        have hes : ∀ e ∈ xs.map (fun x => dropS x (x.length - m)), ∃ x, x ∈ xs ∧ e = dropS x (x.length - m) := fun e he => by
          rw [List.mem_map] at he
          obtain ⟨x, hx, rfl⟩ := he
          exact ⟨x, hx, rfl⟩
        have hes2 : ∀ x ∈ xs, dropS x (x.length - m) ∈ xs.map (fun x => dropS x (x.length - m)) := fun x hx => List.mem_map.mpr ⟨x, hx, rfl⟩
        have hesl : (xs.map (fun x => dropS x (x.length - m))).length ≤ 6 := by rw [List.length_map]; exact hxsl
        have hesw : ∀ e ∈ xs.map (fun x => dropS x (x.length - m)), Wo L e := fun e he => by
          obtain ⟨x, hx, rfl⟩ := hes e he
          have := (hxle x hx).2
          exact ⟨by rw [len_dropS]; have := this.len; omega, fun c hc => this.mem c (List.mem_of_mem_drop hc)⟩
        have hpre : ∀ x ∈ xs, x = takeS x (x.length - m) ++ dropS x (x.length - m) := fun x hx => tl_ext (by rw [tl_app, tl_takeS, tl_dropS, List.take_append_drop])
        generalize xs.map (fun x => dropS x (x.length - m)) = es at *
        walk_at "nx"
        let σE : L2.St := [some (.str L), some (.ref s), some v, some (.str P.lead), some v4, some v5, some (.int (P.fin.length : Nat)), some (.int (k : Nat)), some (.ref l8), some (.ref p9), z10, z11, some (.ref l12), some (.ref l13), some (.ref l14), z15, some v16, none, none, none, none, none, none, none, none]
        have hel : EvP (tIf (tAnd (tTest (tOp (rI0 fun i j => .bl (decide (j < i))) (tVar 7) (tC (.int 0)))) (tAnd (tTest (tOp (rNeA K) (tVar 16) (tLst tNil))) (tTest (tOp (rEqA K) (tLc (iList K (tVar 16)) (gName 24) (tTest (tOp (rNeA K) (tVar 24) (tOp (rIx K) (tVar 16) (tC (.int 0))))) (tVar 24) [24]) (tLst tNil))))) (tOp (rIx K) (tVar 16) (tC (.int 0))) (tC (.str ""))) σE A17 fun _ v => ∃ m' : Str, v = .str m' ∧ Wo L m' ∧ (k = 0 → m' = "") ∧ ∀ x ∈ xs, ∃ y, x = y ++ m' := by
          have hno : EvP (tC (.str "")) σE A17 fun _ v => ∃ m' : Str, v = .str m' ∧ Wo L m' ∧ (k = 0 → m' = "") ∧ ∀ x ∈ xs, ∃ y, x = y ++ m' := EvP.imp (P := isV (.str "")) ev_cv fun A v _ p => ⟨"", p, ⟨by decide, fun c h => nomatch h⟩, fun _ => rfl, fun x _ => ⟨x, (app_nil x).symm⟩⟩
          have hsm : ∀ e ∈ es, ∀ c ∈ tl e, c < 1000 := fun e he c hc => lok.small c ((hesw e he).mem c hc)
          cases es with
          | nil => exact ev_if (K := K) (b := decide ((0 : Int) < (k : Nat)) && (false && false)) (et_and (et_test (ev_gtI (by walk_at "ev") (by walk_at "ev"))) fun _ => et_and (a := false) (b := false) (et_test (ev_is (ev_neD (x := .list []) (y := .list []) (ev_var rfl p17) (ev_lst ead_nil (Nat.zero_le _)) rfl rfl) (by simp [PyData.eqv, PyData.eqvAll]))) fun z => nomatch z) (fun hb => by simp at hb) fun _ => hno
          | cons e0 rest =>
            have h0 : ∀ A, Ex A17 A → ∀ σ : L2.St, σ[16]? = some (some v16) → EvD K (tOp (rIx K) (tVar 16) (tC (.int 0))) σ A (.str e0) := fun A e σ h => ev_ixL (ds := (e0 :: rest).map .str) (j := 0) (ev_var h (dp_mono e p17)) (ev_c fun _ => .int _) rfl rfl
            have hlc : EvD K (tLc (iList K (tVar 16)) (gName 24) (tTest (tOp (rNeA K) (tVar 24) (tOp (rIx K) (tVar 16) (tC (.int 0))))) (tVar 24) [24]) σE A17 (.list (((e0 :: rest).filter fun x => !decide (x = e0)).map .str)) := ev_lc (e0 :: rest) .str (fun x => !decide (x = e0)) .str (src_list (ev_var rfl p17)) (by omega) fun x hx y A B e f py => ⟨_, g_name, rfl, et_test (ev_neS (ev_var rfl py) (h0 A e _ rfl) rfl), fun _ => ev_var rfl py⟩
            refine ev_if (K := K) (b := decide ((0 : Int) < (k : Nat)) && (true && ((e0 :: rest).filter fun x => !decide (x = e0)).isEmpty)) (et_and (et_test (ev_gtI (by walk_at "ev") (by walk_at "ev"))) fun _ => et_and (a := true) (et_test (ev_is (ev_neD (x := .list ((e0 :: rest).map .str)) (y := .list []) (ev_var rfl p17) (ev_lst ead_nil (Nat.zero_le _)) (strs_shaped hsm) rfl) (by rw [eqv_nilS]; rfl))) fun _ => et_test (ev_is (ev_eqD hlc (ev_lst ead_nil (Nat.zero_le _)) (strs_shaped fun e he => hsm e (List.mem_filter.mp he).1) rfl) (by rw [eqv_nilS]))) (fun hb => ?_) fun _ => hno
            simp only [Bool.true_and, Bool.and_eq_true, decide_eq_true_eq] at hb
            obtain ⟨hb1, hb2⟩ := hb
            rw [List.isEmpty_iff, List.filter_eq_nil_iff] at hb2
            refine EvP.imp (P := isD K (.str e0)) (h0 A17 (Ex.refl _) σE rfl) fun A v _ p => ⟨e0, dp_str p, hesw e0 List.mem_cons_self, fun hk0 => by omega, fun x hx => ?_⟩
            have h1 := hb2 _ (hes2 x hx)
            have h2 : dropS x (x.length - m) = e0 := by simpa using h1
            exact ⟨takeS x (x.length - m), by rw [← h2]; exact hpre x hx⟩
        refine st_app (K := K) (ev_ref rfl) hel S17 O13 (by rw [List.length_map]; omega) fun vv A18 B18 s18 p18 S18 O18 => ?_
        obtain ⟨m', rfl, hm1, hm2, hm3⟩ := p18
        have O9' := (O9.go s18).other (o' := .lst (mvs.map V.str ++ [V.str m'])) (fun e => by
          have h1 := O9.at_
          rw [e, O13.at_] at h1
          cases h1)
        refine ⟨A18, ((((hA'.trans s14.kn).trans e16).trans s17.kn)).trans s18.kn, S18.le, mvs ++ [m'], _, _, _, _, rfl, S18, (Z17.go s18).putO hls13, O9', by rw [List.map_append]; exact O18, by rw [List.length_append, hml]; rfl, ?_, ?_, ?_⟩
        · intro x hx
          rcases List.mem_append.mp hx with h | h
          · exact hmw x h
          · rw [List.mem_singleton] at h
            subst h
            exact hm1
        · intro x hx
          by_cases hk0 : k = 0
          · subst hk0
            rw [List.eq_nil_of_length_eq_zero hml] at hx
            cases hx
            exact hm2 rfl
          · rw [List.getElem?_append_left (by omega)] at hx
            exact hm0 x hx
        · intro a b t x y hw ha hb hy
          by_cases htk : t < k
          · rw [List.getElem?_append_left (by omega)] at hy
            exact hms a b t x y hw ha hb hy
          · have hlt := (List.getElem?_eq_some_iff.mp hy).1
            rw [List.length_append, List.length_singleton, hml] at hlt
            have e : t = k := by omega
            subst e
            rw [List.getElem?_append_right (by omega), hml, Nat.sub_self] at hy
            cases hy
            exact hm3 x (hxs2 a b x hw ha hb)
      · rintro σ' A' B' hA' hB' ⟨mvs, z7, z14, z15, z16, rfl, S13, Z13, O9, O13, hml, hmw, hm0, hms⟩
        rw [List.length_range] at hml
        have hmv : MvOk L P mvs := ⟨hml, by
          have h1 : 0 < mvs.length := by omega
          have h2 := List.getElem?_eq_getElem h1
          rw [h2, hm0 _ h2], hmw, fun k r t x m hr hx hm => by
          obtain ⟨hk, j, hj, hw⟩ := wf.atWay hr hx
          exact hms k j t x m hw hk hj hm⟩
        obtain ⟨S14, e14⟩ := S13.frz O13
        have Z14 := Z13.frz (o := .lst (mvs.map V.str)) hls13
        have hA13 : (upd A' l13 (.lst (mvs.map V.str))) l13 = some (.lst (mvs.map V.str)) := upd_same
        have hE14 : Ex A11 (upd A' l13 (.lst (mvs.map V.str))) := (s13.kn.trans hA').trans e14
        generalize upd A' l13 (.lst (mvs.map V.str)) = A14 at *
        walk_at "nx"
        -- F
        refine st_newRg (K := K) (n := P.fin.length) (ev_var rfl (.int _)) S14 (by omega) fun l17 A15 B15 s15 S15 O17 => ?_
        have hls17 := O17.nes hHs
        have Z15 := (Z14.go s15).putO (o := .lst ((List.range P.fin.length).map fun r => V.int (r : Nat))) hls17
        walk_at "nx"
        refine st_for (K := K) (xs := List.range (P.fin.length - 1)) (enc := fun i => .int (((1 : Nat) : Int) + (i : Nat))) (src_range2 (m := 1) (n := P.fin.length) (ev_c fun _ => .int _) (ev_var rfl (.int _)) (by decide) (by omega)) S15.le fun A16 B16 s16 => ⟨fun i σ A B => ∃ (od : List Nat) (z7 z18 : Option V), σ = [some (.str L), some (.ref s), some v, some (.str P.lead), some v4, some v5, some (.int (P.fin.length : Nat)), z7, some (.ref l8), some (.ref p9), z10, z11, some (.ref l12), some (.ref l13), z14, z15, z16, some (.ref l17), z18, none, none, none, none, none, none] ∧ Tot (fun a => a = s) A0 H A B ∧ SS s an A B ∧ Own A0 H A B l17 (.lst (od.map fun r => V.int (r : Nat))) ∧ OrdOk P.fin.length od, ⟨List.range P.fin.length, _, _, rfl, S15.go s16, Z15.go s16, O17.go s16, .start npos⟩, ?_, ?_⟩
        · rintro i ki x σ' A B A17 B17 hi hA hB ⟨od, z7, z18, rfl, S16, Z16, O17, hod⟩ s17 px
          have S17 := S16.go s17
          have Z17 := Z16.go s17
          have O17 := O17.go s17
          have hin : i < P.fin.length - 1 := by
            have := (List.getElem?_eq_some_iff.mp hi).1
            rw [List.length_range] at this
            exact this
          have eki : ki = i := by
            rw [range_at hin] at hi
            exact (Option.some.inj hi).symm
          subst eki
          have ex := dp_int px
          have ex2 : (((1 : Nat) : Int) + (ki : Nat)) = ((1 + ki : Nat) : Int) := by omega
          rw [ex2] at ex
          subst ex
          have hk1 : 0 < 1 + ki := by omega
          have hk2 : 1 + ki < P.fin.length := by omega
          generalize 1 + ki = k at *
          have hE17 : Ex A2 A17 := (((((e25.trans hE11).trans hE14).trans s15.kn).trans s16.kn).trans hA).trans s17.kn
          dsimp only [gName]
          refine z_asg (P := fun _ v => ∃ r : Nat, (0 < r ∧ r < P.fin.length) ∧ v = .int (r : Nat)) S17 Z17 (evs_op (r := rPlus K) (P1 := isV (.int 1)) (evs ev_cv) (evs_next (CR := CR) (CC := CC) (m := P.fin.length - 1) (N2.mono hE17) rfl (ev_is (ev_subI (i := (P.fin.length : Nat)) (j := 1) (ev_var rfl (.int _)) (ev_c fun _ => .int _)) (by congr 1; omega)) (by omega) (by omega)) mon_v fun A u v e p1 p2 => ?_) fun vv A18 B18 s18 S18 Z18 p18 => ?_
          · obtain ⟨r, hr, rfl⟩ := p2
            subst p1
            exact EvP.imp (P := isD K (.int (1 + (r : Nat)))) (ev_addI (ev_var rfl (.int _)) (ev_var rfl (.int _))) fun A v _ p => ⟨1 + r, ⟨by omega, by omega⟩, by rw [dp_int p, show ((1 + r : Nat) : Int) = 1 + (r : Nat) by omega]⟩
          obtain ⟨j, ⟨hj1, hj2⟩, rfl⟩ := p18
          have O18 := O17.goM s18 hls17
          walk_at "nx"
          obtain ⟨a, ha⟩ : ∃ a, od[k]? = some a := ⟨_, List.getElem?_eq_getElem (by have := hod.len; omega)⟩
          obtain ⟨b, hb⟩ : ∃ b, od[j]? = some b := ⟨_, List.getElem?_eq_getElem (by have := hod.len; omega)⟩
          obtain ⟨Sf18, ef18⟩ := S18.frz O18
          have hpair : EvP (tTup (tCons (tOp (rIx K) (tVar 17) (tVar 18)) (tCons (tOp (rIx K) (tVar 17) (tVar 7)) tNil))) [some (.str L), some (.ref s), some v, some (.str P.lead), some v4, some v5, some (.int (P.fin.length : Nat)), some (.int (k : Nat)), some (.ref l8), some (.ref p9), z10, z11, some (.ref l12), some (.ref l13), z14, z15, z16, some (.ref l17), some (.int (j : Nat)), none, none, none, none, none, none] (upd A18 l17 (.lst (od.map fun r => V.int (r : Nat)))) (HTV [V.int (b : Nat), V.int (a : Nat)]) :=
            ev_tupX2 (ev_ixX (K := K) (l := l17) (j := j) (ev_varP rfl fun _ _ => rfl) upd_same (ev_var rfl (.int _)) rfl (by rw [List.getElem?_map, hb]; rfl)) (ev_ixX (K := K) (l := l17) (j := k) (ev_varP rfl fun _ _ => rfl) upd_same (ev_var rfl (.int _)) rfl (by rw [List.getElem?_map, ha]; rfl))
          refine hpair _ B18 (Ex.refl _) Sf18.le _ fun vt A19 B19 s19 p19 => ?_
          obtain ⟨tp, rfl, htp⟩ := p19
          have s19' := s19.back ef18
          have S19 := S18.go s19'
          have Z19 := Z18.go s19'
          have O19 := O18.go s19'
          have hl := hod.len
          have e1 : (od.map fun r => V.int (r : Nat)).set k (.int (b : Nat)) = (od.set k b).map fun r => V.int (r : Nat) := by rw [List.map_set (f := fun r : Nat => V.int (r : Nat))]
          have e2 : ((od.set k b).map fun r => V.int (r : Nat)).set j (.int (a : Nat)) = ((od.set k b).set j a).map fun r => V.int (r : Nat) := by simp only [List.map_set]
          refine ⟨tp, [.int (b : Nat), .int (a : Nat)], rfl, SqT.of (s19.le _ _ htp), rfl, .int (b : Nat), [.int (a : Nat)], rfl, _, rfl, _, rfl, l17, _, (k : Nat), k, rfl, rfl, O19.at_, ixN_nat (by rw [List.length_map]; omega), ?_⟩
          rw [e1]
          have S20 := S19.mut (o' := .lst ((od.set k b).map fun r => V.int (r : Nat))) O19
          have O20 := O19.put (o' := .lst ((od.set k b).map fun r => V.int (r : Nat)))
          refine ⟨.int (a : Nat), [], rfl, _, rfl, _, rfl, l17, _, (j : Nat), j, rfl, rfl, O20.at_, ixN_nat (by rw [List.length_map, List.length_set]; omega), rfl, ?_⟩
          rw [e2]
          have S21 := S20.mut (o' := .lst (((od.set k b).set j a).map fun r => V.int (r : Nat))) O20
          have O21 := O20.put (o' := .lst (((od.set k b).set j a).map fun r => V.int (r : Nat)))
          refine ⟨A18, (hA.trans s17.kn).trans s18.kn, S21.le, (od.set k b).set j a, _, _, rfl, S21, (Z19.putO hls17).putO hls17, O21, hod.swap hk1 hk2 hj1 hj2 ha hb⟩
        · rintro σ' A B hA hB ⟨od, z7, z18, rfl, S16, Z16, O17, hod⟩
          have hodl := hod.len
          obtain ⟨S17, e17⟩ := S16.frz O17
          have Z17 := Z16.frz (o := .lst (od.map fun r => V.int (r : Nat))) hls17
          have hA17 : (upd A l17 (.lst (od.map fun r => V.int (r : Nat)))) l17 = some (.lst (od.map fun r => V.int (r : Nat))) := upd_same
          have hE17 : Ex A14 (upd A l17 (.lst (od.map fun r => V.int (r : Nat)))) := ((s15.kn.trans s16.kn).trans hA).trans e17
          generalize upd A l17 (.lst (od.map fun r => V.int (r : Nat))) = A17 at *
          have dod : Dp K A17 (.ref l17) (.list (od.map fun r => PyData.int (r : Nat))) := .lst (SqL.of hA17) (da_map (fun r : Nat => .int _) od)
          have hE5 : Ex A5 A17 := (hE11.trans hE14).trans hE17
          have d4' := dp_mono (e15.trans hE5) d4
          have d5' := dp_mono (e15.trans hE5) d5
          have N17 := N5.mono hE5
          obtain ⟨c0, hc0, hc0m⟩ := tl_head l1
          walk_at "nx"
          -- G
          refine st_new0 S17 fun l19 S18 O19 hn19 => ?_
          have hls19 := O19.nes hHs
          have Z18 := Z17.putO (o := .lst []) hls19
          walk_at "nx"
          refine st_new0 S18 fun l20 S19 O20 hn20 => ?_
          have hls20 := O20.nes hHs
          have h1920 : l19 ≠ l20 := O19.ne hn20
          have Z19 := Z18.putO (o := .lst []) hls20
          have O19 := O19.other (o' := .lst []) h1920
          walk_at "nx"
          refine st_for (K := K) (xs := od) (enc := fun r => .int (r : Nat)) (src_list (ev_var rfl dod)) S19.le fun A20 B20 s20 => ⟨fun p σ A B => ∃ (nf : List (Option Str)) (nt : List (List Way)) (us ws : List V) (z7 z11 z15 z21 : Option V), σ = [some (.str L), some (.ref s), some v, some (.str P.lead), some v4, some v5, some (.int (P.fin.length : Nat)), z7, some (.ref l8), some (.ref p9), z10, z11, some (.ref l12), some (.ref l13), z14, z15, z16, some (.ref l17), z18, some (.ref l19), some (.ref l20), z21, none, none, none] ∧ Tot (fun a => a = s) A0 H A B ∧ SS s an A B ∧ Own A0 H A B l19 (.lst us) ∧ Own A0 H A B l20 (.lst ws) ∧ nf.length = p ∧ nt.length = p ∧ DpAll K A us (nf.map eS) ∧ DpAll K A ws (nt.map eRL) ∧ (∀ q k, q < p → od[q]? = some k → nf[q]? = some (finV P mvs k)) ∧ (∀ q k row, od[q]? = some k → nt[q]? = some row → RowOk L P mvs od k row), ⟨[], [], [], [], _, _, _, _, rfl, S19.go s20, Z19.go s20, O19.go s20, O20.go s20, rfl, rfl, .nil, .nil, (fun q k h => absurd h (Nat.not_lt_zero _)), fun q k row _ h => by rw [List.getElem?_nil] at h; cases h⟩, ?_, ?_⟩
          · rintro p k x σ' A B A21 B21 hp hA hB ⟨nf, nt, us, ws, z7, z11, z15, z21, rfl, S20, Z20, O19, O20, hnf, hnt, dus, dws, hfin, hrow⟩ s21 px
            have S21 := S20.go s21
            have Z21 := Z20.go s21
            have O19 := O19.go s21
            have O20 := O20.go s21
            have ex := dp_int px
            subst ex
            have hkn := hod.lt k (List.mem_of_getElem? hp)
            have hE21 : Ex A17 A21 := (s20.kn.trans hA).trans s21.kn
            obtain ⟨hmk1, hmk2⟩ := hmv.at hkn
            have hfk : P.fin[k]? = some (finAt P (k : Nat)) := wf.finAt (s := (k : Int)) (by omega) (by omega)
            dsimp only [gName]
            have hmvE : ∀ (σ : L2.St) (A' : Hp) (t : Nat) (ti : TE) (y : Str), σ[13]? = some (some (.ref l13)) → Ex A14 A' → EvD K ti σ A' (.int (t : Nat)) → mvs[t]? = some y → EvD K (tOp (rIx K) (tVar 13) ti) σ A' (.str y) := fun σ A' t ti y h13 e ht hy => EvP.imp (ev_ixX (K := K) (l := l13) (j := t) (ev_varP h13 fun _ _ => rfl) (e _ _ hA13) ht rfl (by rw [List.getElem?_map, hy]; rfl)) fun A v _ p => by rw [p]; exact .str _
            refine st_app (K := K) (P := isD K (eS (finV P mvs k))) (ev_ref rfl) ?_ S21 O19 (by rw [da_len dus, List.length_map]; have := (List.getElem?_eq_some_iff.mp hp).1; omega) fun v22 A22 B22 s22 p22 S22 O22 => ?_
            · have hf4 : EvD K (tOp (rIx K) (tVar 4) (tVar 7)) [some (.str L), some (.ref s), some v, some (.str P.lead), some v4, some v5, some (.int (P.fin.length : Nat)), some (.int (k : Nat)), some (.ref l8), some (.ref p9), z10, z11, some (.ref l12), some (.ref l13), z14, z15, z16, some (.ref l17), z18, some (.ref l19), some (.ref l20), z21, none, none, none] A21 (eS (finAt P (k : Nat))) := ev_ixL (ds := P.fin.map eS) (j := k) (ev_var rfl (dp_mono hE21 d4')) (ev_var rfl (.int _)) rfl (at_map hfk)
              have hfw := fun f => mk.finWo (k := k) (x := f)
              unfold finV
              cases hfo : finAt P (k : Nat) with
              | none =>
                rw [hfo] at hf4
                exact ev_if (b := true) (et_test (ev_is0 (d := .none) hf4 (by walk_at "ev") rfl)) (fun _ => ev_c fun _ => Dp.non) fun z => nomatch z
              | some f =>
                rw [hfo] at hf4
                have h1 := (hfw f hfo).len
                have h2 := hmk2.len
                exact ev_if (b := false) (et_test (ev_is0 (d := .str f) hf4 (by walk_at "ev") rfl)) (fun z => nomatch z) fun _ => ev_addS (x := mvF mvs k) (y := f) (hmvE _ _ k _ _ rfl (hE17.trans hE21) (ev_var rfl (.int _)) hmk1) hf4 (by omega)
            have Z22 := (Z21.go s22).putO (o := .lst (us ++ [v22])) hls19
            have O20 := (O20.go s22).other (o' := .lst (us ++ [v22])) h1920.symm
            walk_at "nx"
            refine st_new0 S22 fun l15 S23 O23 hn23 => ?_
            have hls15 := O23.nes hHs
            have h1915 : l19 ≠ l15 := O22.ne hn23
            have h2015 : l20 ≠ l15 := O20.ne hn23
            have Z23 := Z22.putO (o := .lst []) hls15
            have O22 := O22.other (o' := .lst []) h1915
            have O20 := O20.other (o' := .lst []) h2015
            obtain ⟨r, hr1, hr2⟩ := wf.tabAt (s := (k : Int)) (by omega) (by omega)
            have hr1 : P.tab[k]? = some r := hr1
            have hE22 : Ex A17 A22 := hE21.trans s22.kn
            have drow : EvD K (tOp (rIx K) (tVar 5) (tVar 7)) [some (.str L), some (.ref s), some v, some (.str P.lead), some v4, some v5, some (.int (P.fin.length : Nat)), some (.int (k : Nat)), some (.ref l8), some (.ref p9), z10, z11, some (.ref l12), some (.ref l13), z14, some (.ref l15), z16, some (.ref l17), z18, some (.ref l19), some (.ref l20), z21, none, none, none] A22 (eRL r) := ev_ixL (ds := P.tab.map eRL) (j := k) (ev_var rfl (dp_mono hE22 d5')) (ev_var rfl (.int _)) rfl (at_map hr1)
            walk_at "nx"
            refine st_for (K := K) (xs := r) (enc := eW) (src_list drow) S23.le fun A24 B24 s24 => ⟨fun j σ A B => ∃ (rw2 : List Way) (vs : List V) (z11 z21 : Option V), σ = [some (.str L), some (.ref s), some v, some (.str P.lead), some v4, some v5, some (.int (P.fin.length : Nat)), some (.int (k : Nat)), some (.ref l8), some (.ref p9), z10, z11, some (.ref l12), some (.ref l13), z14, some (.ref l15), z16, some (.ref l17), z18, some (.ref l19), some (.ref l20), z21, none, none, none] ∧ Tot (fun a => a = s) A0 H A B ∧ SS s an A B ∧ Own A0 H A B l19 (.lst (us ++ [v22])) ∧ Own A0 H A B l20 (.lst ws) ∧ Own A0 H A B l15 (.lst vs) ∧ rw2.length = j ∧ DpAll K A vs (rw2.map eW) ∧ ∀ j' w', rw2[j']? = some w' → (match wayAt P (k : Nat) j' with | none => w' = none ∨ ∃ z : Str, Wo L z ∧ w' = some (P.fin.length, z) | some (t, x) => ∃ y : Str, x = y ++ mvF mvs t ∧ w' = some (od.idxOf t, mvF mvs k ++ y)), ⟨[], [], _, _, rfl, S23.go s24, Z23.go s24, O22.go s24, O20.go s24, O23.go s24, rfl, .nil, fun j' w' h => by rw [List.getElem?_nil] at h; cases h⟩, ?_, ?_⟩
            · rintro j w y σ' A' B' A25 B25 hj hA' hB' ⟨rw2, vs, z11, z21, rfl, S24, Z24, O22, O20, O23, hrl, hrd, hrs⟩ s25 py
              have S25 := S24.go s25
              have Z25 := Z24.go s25
              have O22 := O22.go s25
              have O20 := O20.go s25
              have O23 := O23.go s25
              have hjr : j < r.length := (List.getElem?_eq_some_iff.mp hj).1
              have hjl : j < L.length := by omega
              have hwj : wayAt P (k : Nat) j = w := by
                have h1 := wf.wayIs (s := (k : Int)) hr1 hjr
                rw [hj] at h1
                exact (Option.some.inj h1).symm
              have hE25 : Ex A17 A25 := ((hE22.trans s24.kn).trans hA').trans s25.kn
              have hvl : vs.length ≤ 1000000 := by rw [da_len hrd, List.length_map]; omega
              dsimp only [gName]
              cases w with
              | none =>
                refine s_if (K := K) (b := true) S25 (et_test (ev_is0 (d := .none) (ev_var rfl py) (by walk_at "ev") rfl)) (fun _ A26 B26 s26 S26 => ?_) (fun z => nomatch z)
                have Z26 := Z25.go s26
                refine z_app (K := K) (P := fun A v => ∃ w' : Way, (w' = none ∨ ∃ z : Str, Wo L z ∧ w' = some (P.fin.length, z)) ∧ Dp K A v (eW w')) (ev_ref rfl) (evs_if (est_eq0 (evs_next (CR := CR) (CC := CC) (m := 2) (N17.mono (hE25.trans s26.kn)) rfl (by walk_at "ev") (by decide) (by decide))) (fun _ => ?_) (fun _ => ?_)) S26 Z26 (O23.go s26) hls15 hvl fun v27 A27 B27 s27 p27 S27 Z27 O27 => ?_
                · exact evs (EvP.imp (P := isD K (.tuple [.int (P.fin.length : Nat), .str ⟨#[c0]⟩])) (ev_tup (ead_cons (ev_var rfl (.int _)) (ead_cons (ev_ixS (ev_var rfl (.str L)) (ev_c fun _ => .int _) (by omega) (atI_nat (j := 0) hc0)) ead_nil)) (Nat.le_of_ble_eq_true rfl)) fun A v _ p => ⟨some (P.fin.length, ⟨#[c0]⟩), .inr ⟨_, ⟨by show (1 : Nat) ≤ 2; decide, (tx_one hc0m).mem⟩, rfl⟩, p⟩)
                · exact evs (EvP.imp (P := isV .non) ev_cv fun A v _ p => ⟨none, .inl rfl, p ▸ .non⟩)
                · obtain ⟨w', hw', dw'⟩ := p27
                  refine ⟨A27, ((hA'.trans s25.kn).trans s26.kn).trans s27.kn, S27.le, rw2 ++ [w'], vs ++ [v27], _, _, rfl, S27, Z27, ((O22.go s26).goM s27 hls19).other h1915, ((O20.go s26).goM s27 hls20).other h2015, O27, by rw [List.length_append, hrl]; rfl, by rw [List.map_append]; exact da_app (da_mono ((s25.kn.trans s26.kn).trans s27.kn) hrd) (.cons dw' .nil), fun j' w2 h => ?_⟩
                  by_cases hlt : j' < rw2.length
                  · rw [List.getElem?_append_left hlt] at h
                    exact hrs j' w2 h
                  · have hlt2 := (List.getElem?_eq_some_iff.mp h).1
                    rw [List.length_append, List.length_singleton] at hlt2
                    have e : j' = j := by omega
                    subst e
                    rw [List.getElem?_append_right (by omega), hrl, Nat.sub_self] at h
                    cases h
                    rw [hwj]
                    exact hw'
              | some tx =>
                obtain ⟨t, x⟩ := tx
                replace py : Dp K A25 y (.tuple [.int (t : Nat), .str x]) := py
                refine s_if (K := K) (b := false) S25 (et_test (ev_is0 (d := .tuple [.int (t : Nat), .str x]) (ev_var rfl py) (by walk_at "ev") rfl)) (fun z => nomatch z) (fun _ A26 B26 s26 S26 => ?_)
                obtain ⟨htn, hxw⟩ := mk.wayWo hwj
                have hxl := hxw.len
                obtain ⟨hmt1, hmt2⟩ := hmv.at htn
                obtain ⟨y0, hy0⟩ := hmv.suf k r t x _ hr1 (List.mem_of_getElem? hj) hmt1
                have hyw := wo_pre hxw hy0
                have hyl := hyw.len
                have hml := hmt2.len
                have hkl2 := hmk2.len
                have hE26 : Ex A14 A26 := (hE17.trans hE25).trans s26.kn
                have py := dp_mono s26.kn py
                have hlen : x.length = y0.length + (mvF mvs t).length := by rw [hy0, len_app]
                have hkept : takeS x (x.length - (mvF mvs t).length) = y0 := tl_ext (by
                  rw [tl_takeS, hlen, Nat.add_sub_cancel, hy0, tl_app, ← tl_len, List.take_left])
                walk_at "nx"
                refine s_asg (K := K) (d := .str y0) S26 (ev_is (ev_slS (z := x) (lo := none) (hi := some ((x.length - (mvF mvs t).length : Nat) : Int)) (ev_ixT (ds := [.int (t : Nat), .str x]) (j := 1) (ev_var rfl py) (ev_c fun _ => .int _) rfl rfl) eo_none (eo_some (ev_is (ev_subI (i := (x.length : Nat)) (j := ((mvF mvs t).length : Nat)) (ev_len (d := .str x) (ev_ixT (ds := [.int (t : Nat), .str x]) (j := 1) (ev_var rfl py) (ev_c fun _ => .int _) rfl rfl) (if_pos (by omega))) (ev_len (d := .str (mvF mvs t)) (hmvE _ _ t _ _ rfl hE26 (ev_ixT (ds := [.int (t : Nat), .str x]) (j := 0) (ev_var rfl py) (ev_c fun _ => .int _) rfl rfl) hmt1) (if_pos (by omega)))) (by congr 1; omega))) (by omega)) (by rw [cutS_to, hkept])) fun v27 A27 B27 s27 S27 p27 => ?_
                have ev := dp_str p27
                subst ev
                have hEt : Ex A25 A27 := s26.kn.trans s27.kn
                have O23 := (O23.go s26).go s27
                have py := dp_mono s27.kn py
                walk_at "nx"
                refine st_app (K := K) (P := isD K (.tuple [.int (od.idxOf t : Nat), .str (mvF mvs k ++ y0)])) (ev_ref rfl) (ev_tup (ead_cons (ev_lindex (l := l17) (od := od) (ev_varP rfl fun _ _ => rfl) ((hE25.trans hEt) _ _ hA17) (ev_ixT (ds := [.int (t : Nat), .str x]) (j := 0) (ev_var rfl py) (ev_c fun _ => .int _) rfl rfl) (hod.all t htn)) (ead_cons (ev_addS (x := mvF mvs k) (y := y0) (hmvE _ _ k _ _ rfl (hE26.trans s27.kn) (ev_var rfl (.int _)) hmk1) (ev_var rfl (.str _)) (by omega)) ead_nil)) (Nat.le_of_ble_eq_true rfl)) S27 O23 hvl fun v28 A28 B28 s28 p28 S28 O28 => ?_
                refine ⟨A28, ((hA'.trans s25.kn).trans hEt).trans s28.kn, S28.le, rw2 ++ [some (od.idxOf t, mvF mvs k ++ y0)], vs ++ [v28], _, _, rfl, S28, (((Z25.go s26).go s27).go s28).putO hls15, (((O22.go s26).go s27).go s28).other h1915, (((O20.go s26).go s27).go s28).other h2015, O28, by rw [List.length_append, hrl]; rfl, by rw [List.map_append]; exact da_app (da_mono ((s25.kn.trans hEt).trans s28.kn) hrd) (.cons p28 .nil), fun j' w2 h => ?_⟩
                by_cases hlt : j' < rw2.length
                · rw [List.getElem?_append_left hlt] at h
                  exact hrs j' w2 h
                · have hlt2 := (List.getElem?_eq_some_iff.mp h).1
                  rw [List.length_append, List.length_singleton] at hlt2
                  have e : j' = j := by omega
                  subst e
                  rw [List.getElem?_append_right (by omega), hrl, Nat.sub_self] at h
                  cases h
                  rw [hwj]
                  exact ⟨y0, hy0, rfl⟩
            · rintro σ' A' B' hA' hB' ⟨rw2, vs, z11, z21, rfl, S24, Z24, O22, O20, O23, hrl, hrd, hrs⟩
              obtain ⟨S25, er25⟩ := S24.frz O23
              have Z25 := Z24.frz (o := .lst vs) hls15
              have O22 := O22.frzO (o' := .lst vs) h1915
              have O20 := O20.frzO (o' := .lst vs) h2015
              have dro : Dp K (upd A' l15 (.lst vs)) (.ref l15) (eRL rw2) := .lst (SqL.of upd_same) (da_mono er25 hrd)
              have hrk : RowOk L P mvs od k rw2 := ⟨by omega, fun j w h => hrs j w h⟩
              have hpl := (List.getElem?_eq_some_iff.mp hp).1
              have hEa : Ex A21 (upd A' l15 (.lst vs)) := ((s22.kn.trans s24.kn).trans hA').trans er25
              walk_at "nx"
              refine st_app (K := K) (P := isD K (eRL rw2)) (ev_ref rfl) (ev_var rfl dro) S25 O20 (by rw [da_len dws, List.length_map]; omega) fun v29 A29 B29 s29 p29 S29 O29 => ?_
              refine ⟨A29, ((hA.trans s21.kn).trans hEa).trans s29.kn, S29.le, nf ++ [finV P mvs k], nt ++ [rw2], us ++ [v22], ws ++ [v29], _, _, _, _, rfl, S29, (Z25.go s29).putO hls20, (O22.go s29).other h1920, O29, by rw [List.length_append, hnf]; rfl, by rw [List.length_append, hnt]; rfl, ?_, ?_, ?_, ?_⟩
              · rw [List.map_append]
                exact da_app (da_mono ((s21.kn.trans hEa).trans s29.kn) dus) (.cons (dp_mono (((s24.kn.trans hA').trans er25).trans s29.kn) p22) .nil)
              · rw [List.map_append]
                exact da_app (da_mono ((s21.kn.trans hEa).trans s29.kn) dws) (.cons p29 .nil)
              · intro q k' hq hk'
                by_cases hqp : q < p
                · rw [List.getElem?_append_left (by omega)]
                  exact hfin q k' hqp hk'
                · have e : q = p := by omega
                  subst e
                  rw [hp] at hk'
                  cases hk'
                  rw [List.getElem?_append_right (by omega), hnf, Nat.sub_self]
                  rfl
              · intro q k' row hk' hrow'
                by_cases hqp : q < p
                · rw [List.getElem?_append_left (by omega)] at hrow'
                  exact hrow q k' row hk' hrow'
                · have hq2 := (List.getElem?_eq_some_iff.mp hrow').1
                  rw [List.length_append, List.length_singleton] at hq2
                  have e : q = p := by omega
                  subst e
                  rw [hp] at hk'
                  cases hk'
                  rw [List.getElem?_append_right (by omega), hnt, Nat.sub_self] at hrow'
                  cases hrow'
                  exact hrk
          · rintro σ' A B hA hB ⟨nf, nt, us, ws, z7, z11, z15, z21, rfl, S20, Z20, O19, O20, hnf, hnt, dus, dws, hfin, hrow⟩
            -- H
            obtain ⟨S21, e21⟩ := S20.frz O19
            have Z21 := Z20.frz (o := .lst us) hls19
            have O20 := O20.frzO (o' := .lst us) h1920.symm
            obtain ⟨S22, e22⟩ := S21.frz O20
            have Z22 := Z21.frz (o := .lst ws) hls20
            have h19 : HL K (nf.map eS) (upd (upd A l19 (.lst us)) l20 (.lst ws)) (.ref l19) := ⟨l19, us, rfl, e22 _ _ upd_same, da_mono (e21.trans e22) dus⟩
            have h20 : HL K (nt.map eRL) (upd (upd A l19 (.lst us)) l20 (.lst ws)) (.ref l20) := ⟨l20, ws, rfl, upd_same, da_mono (e21.trans e22) dws⟩
            walk_at "nx"
            refine z_ret S22 Z22 kk (evs (EvP.imp (P := isD K (eParts (newR L P nf nt))) (ev_is (ev_tup (ead_cons (ev_var rfl (.str _)) (ead_cons (evl_add (K := K) (xs := nf.map eS) (ys := [.none]) (ev_varP rfl fun A e => h19.mono e) (evl_lst (ead_cons (ev_c fun _ => Dp.non) ead_nil) (Nat.le_of_ble_eq_true rfl)) (by rw [List.length_map]; show _ + 1 ≤ _; omega)).dp (ead_cons (evl_add (K := K) (xs := nt.map eRL) (ys := [eRL ((tl L).map fun _ => (some (P.fin.length, "") : Way))]) (ev_varP rfl fun A e => h20.mono e) (evl_lst (ead_cons (ev_is (ev_lc0 (tl L) (fun c => .str ⟨#[c]⟩) (fun _ => .tuple [.int (P.fin.length : Nat), .str ""]) (src_str (ev_var rfl (.str _))) (by rw [tl_len]; omega) fun c hc y A B e f py => ⟨_, g_name, rfl, ev_tup (ead_cons (ev_var rfl (.int _)) (ead_cons (ev_c fun _ => .str _) ead_nil)) (Nat.le_of_ble_eq_true rfl)⟩) (by show PyData.list _ = PyData.list _; rw [List.map_map]; rfl)) ead_nil) (Nat.le_of_ble_eq_true rfl)) (by rw [List.length_map]; show _ + 1 ≤ _; omega)).dp ead_nil))) (Nat.le_of_ble_eq_true rfl)) (by show PyData.tuple _ = PyData.tuple [.str P.lead, .list ((nf ++ [none]).map eS), .list ((nt ++ [_]).map eRL)]; rw [List.map_append, List.map_append]; rfl)) fun A v _ p => ⟨newR L P nf nt, fun t => od.idxOf t, mvF mvs, new_wf lok mk hmv hod (by omega) (fun p k h => hfin p k (by have := (List.getElem?_eq_some_iff.mp h).1; omega) h) (by omega) hrow, new_var lok mk hmv hod (by omega) (fun p k h => hfin p k (by have := (List.getElem?_eq_some_iff.mp h).1; omega) h) (by omega) hrow, ?_, p⟩))
            show (nf ++ [none]).length = _
            rw [List.length_append, List.length_singleton]
            omega
end
-- W32
/-! ### the law: tools -/
def sp_law (K : PySem.W.Frag) (CR CC : Addr) : Sp := fun vs H Q _ => ∃ (A : Hp) (v : V) (ns : List Int), vs = [v] ∧ Ex A H ∧ Dp K A v (.list (ns.map .int)) ∧ Ret K A H Q (.bool true)
/-- a paper of moderate size -/
def PapP (K : PySem.W.Frag) (L : Str) (n : Nat) : Hp → V → Prop := fun A v => ∃ pa : Pap, PK L n pa ∧ Dp K A v (eP pa)
def OthP (K : PySem.W.Frag) (L : Str) : Hp → V → Prop := fun A v => ∃ X : Rw, Wf L X ∧ Dp K A v (eParts X)
section
variable {K : PySem.W.Frag} {CR CC : Addr} {s an : Addr} {σ : L2.St} {A0 B0 A B A' B' : Hp} {te ta tb tc : TE} {tA : TA} {P : Hp → V → Prop} {D : Ends} {L : Str}
theorem PapP.mono {n : Nat} {v : V} (h : PapP K L n A v) (e : Ex A A') : PapP K L n A' v := by
  obtain ⟨pa, h1, h2⟩ := h
  exact ⟨pa, h1, dp_mono e h2⟩
theorem PapP.up {n m : Nat} {v : V} (h : PapP K L n A v) (hm : n ≤ m) : PapP K L m A v := by
  obtain ⟨pa, h1, h2⟩ := h
  exact ⟨pa, h1.up hm, h2⟩
theorem mon_pap {n : Nat} : Mon (PapP K L n) := fun _ _ _ e h => h.mono e
theorem mon_oth : Mon (OthP K L) := fun _ _ _ e ⟨X, h1, h2⟩ => ⟨X, h1, dp_mono e h2⟩
theorem stp_of (t : Stq s A B A' B') (h : B s = none) : Stp A B A' B' := ⟨t.kn, t.le, fun a o _ z => t.al a o (fun e => by rw [show a = s from e, h] at z; cases z) z, t.sp, t.th⟩
theorem paps {n : Nat} {us : List V} (h : ∀ u ∈ us, PapP K L n A u) : ∃ ps : List Pap, DpAll K A us (ps.map eP) ∧ ∀ p ∈ ps, PK L n p := by
  induction us with
  | nil => exact ⟨[], .nil, fun _ h => nomatch h⟩
  | cons u us ih =>
    obtain ⟨ps, h1, h2⟩ := ih fun u hu => h u (List.mem_cons_of_mem _ hu)
    obtain ⟨p, h3, h4⟩ := h u List.mem_cons_self
    exact ⟨p :: ps, .cons h4 h1, fun d hd => by
      rcases List.mem_cons.mp hd with rfl | hd
      · exact h3
      · exact h2 d hd⟩
theorem ps_same {P : Hp → V → Prop} {us : List V} (h : PsAt A [P, P, P] us) : us.length = 3 ∧ ∀ u ∈ us, P A u := by
  obtain ⟨a, b, c, rfl, h1, h2, h3⟩ := ps_three h
  refine ⟨rfl, fun u hu => ?_⟩
  simp only [List.mem_cons, List.not_mem_nil, or_false] at hu
  rcases hu with rfl | rfl | rfl <;> assumption
theorem evs_letters {i : Nat} (hN : NumA K A0 an) (hi : σ[i]? = some (some (.ref s))) : EvS s an (tCall (sp_l_letters K CR CC) [] E0 (tCons (tVar i) (tCons (tC (.int 2)) tNil))) σ A0 fun _ v => ∃ L : Str, LOk L ∧ v = .str L :=
  evs_call (Ps := [isV (.ref s), isV (.int 2)]) (evsa_cons (evs (ev_varP hi fun _ _ => rfl)) mon_v (evsa_cons (evs ev_cv) mon_v evsa_nil)) fun A1 B1 vs e f Z r Q k => by
    obtain ⟨u, v, rfl, rfl, rfl⟩ := ps_two r
    exact ⟨A1, s, an, rfl, f, Z, hN.mono e, k⟩
theorem evs_maker {i j : Nat} (hN : NumA K A0 an) (lok : LOk L) (hi : σ[i]? = some (some (.str L))) (hj : σ[j]? = some (some (.ref s))) : EvS s an (tCall (sp_l_maker K CR CC) [] E0 (tCons (tVar i) (tCons (tVar j) (tCons (tC (.int 3)) tNil)))) σ A0 fun A v => ∃ P : Rw, Mk3 L P ∧ Dp K A v (eParts P) :=
  evs_call (Ps := [isV (.str L), isV (.ref s), isV (.int 3)]) (evsa_cons (evs (ev_varP hi fun _ _ => rfl)) mon_v (evsa_cons (evs (ev_varP hj fun _ _ => rfl)) mon_v (evsa_cons (evs ev_cv) mon_v evsa_nil))) fun A1 B1 vs e f Z r Q k => by
    obtain ⟨u, v, w, rfl, rfl, rfl, rfl⟩ := ps_three r
    exact ⟨A1, s, an, L, rfl, f, Z, hN.mono e, lok, k⟩
theorem evs_variant {i j : Nat} {F : Rw} (hN : NumA K A0 an) (lok : LOk L) (mk : Mk3 L F) (hi : σ[i]? = some (some (.str L))) (hj : σ[j]? = some (some (.ref s))) (h : EvD K te σ A0 (eParts F)) : EvS s an (tCall (sp_l_variant K CR CC) [] E0 (tCons (tVar i) (tCons (tVar j) (tCons te tNil)))) σ A0 fun A v => ∃ (S : Rw) (ix : Nat → Nat) (mv : Nat → Str), WfB 10 L S ∧ Var L F S ix mv ∧ S.fin.length = F.fin.length + 1 ∧ Dp K A v (eParts S) :=
  evs_call (Ps := [isV (.str L), isV (.ref s), isD K (eParts F)]) (evsa_cons (evs (ev_varP hi fun _ _ => rfl)) mon_v (evsa_cons (evs (ev_varP hj fun _ _ => rfl)) mon_v (evsa_cons (evs h) mon_d evsa_nil))) fun A1 B1 vs e f Z r Q k => by
    obtain ⟨u, v, w, rfl, rfl, rfl, r3⟩ := ps_three r
    exact ⟨A1, s, an, L, w, F, rfl, f, Z, hN.mono e, lok, mk, r3, k⟩
theorem evs_bend {i j : Nat} {F : Rw} (hN : NumA K A0 an) (lok : LOk L) (wb : WfB 10 L F) (hi : σ[i]? = some (some (.str L))) (hj : σ[j]? = some (some (.ref s))) (h : EvD K te σ A0 (eParts F)) : EvS s an (tCall (sp_l_bend K CR CC) [] E0 (tCons (tVar i) (tCons (tVar j) (tCons te tNil)))) σ A0 (OthP K L) :=
  evs_call (Ps := [isV (.str L), isV (.ref s), isD K (eParts F)]) (evsa_cons (evs (ev_varP hi fun _ _ => rfl)) mon_v (evsa_cons (evs (ev_varP hj fun _ _ => rfl)) mon_v (evsa_cons (evs h) mon_d evsa_nil))) fun A1 B1 vs e f Z r Q k => by
    obtain ⟨u, v, w, rfl, rfl, rfl, r3⟩ := ps_three r
    exact ⟨A1, s, an, L, w, F, rfl, f, Z, hN.mono e, lok, wb, r3, fun v' A' B' t z ⟨X, x1, _, x3⟩ => k v' A' B' t z ⟨X, x1, x3⟩⟩
/-- Rewriter(letters, parts[0], parts[1], parts[2]) -/
theorem ev_rwP {F : Rw} (lok : LOk L) (wf : Wf L F) (hl : EvD K ta σ A0 (.str L)) (h : EvD K te σ A0 (eParts F)) : EvP (tMake CR (sp_Rw_init K CR CC) [] E0 (tCons ta (tCons (tOp (rIx K) te (tC (.int 0))) (tCons (tOp (rIx K) te (tC (.int 1))) (tCons (tOp (rIx K) te (tC (.int 2))) tNil))))) σ A0 fun A v => ∃ p, v = .ref p ∧ RwAt K CR A p L F :=
  ev_rw lok wf hl (ev_ixT (ds := [.str F.lead, .list (F.fin.map eS), .list (F.tab.map eRL)]) (j := 0) h (ev_c fun _ => .int _) rfl rfl) (ev_ixT (ds := [.str F.lead, .list (F.fin.map eS), .list (F.tab.map eRL)]) (j := 1) h (ev_c fun _ => .int _) rfl rfl) (ev_ixT (ds := [.str F.lead, .list (F.fin.map eS), .list (F.tab.map eRL)]) (j := 2) h (ev_c fun _ => .int _) rfl rfl)
theorem mon_rw : Mon (fun A v => ∃ p, v = .ref p ∧ RwAt K CR A p L P') := fun _ _ _ e ⟨p, h1, h2⟩ => ⟨p, h1, h2.mono e⟩
/-- same(first, second)[1] -/
theorem evs_same {F S : Rw} {ix : Nat → Nat} {mv : Nat → Str} (var : Var L F S ix mv) (h1 : EvP ta σ A0 fun A v => ∃ p, v = .ref p ∧ RwAt K CR A p L F) (h2 : EvP tb σ A0 fun A v => ∃ p, v = .ref p ∧ RwAt K CR A p L S) : EvS s an (tOp (rIx K) (tCall (sp_same K CR CC) [] E0 (tCons ta (tCons tb tNil))) (tC (.int 1))) σ A0 (PapP K L 0) :=
  evs_op (P1 := fun A v => ∃ pa : Pap, PK L 0 pa ∧ Dp K A v (.tuple [.str "same", eP pa])) (P2 := isV (.int 1)) (evs_call (Ps := [fun A v => ∃ p, v = .ref p ∧ RwAt K CR A p L F, fun A v => ∃ p, v = .ref p ∧ RwAt K CR A p L S]) (evsa_cons (evs h1) mon_rw (evsa_cons (evs h2) mon_rw evsa_nil)) fun A1 B1 vs e f Z r Q k => by
    obtain ⟨u, v, rfl, ⟨p, rfl, r1⟩, ⟨q, rfl, r2⟩⟩ := ps_two r
    exact ⟨A1, p, q, L, F, S, ix, mv, rfl, f, r1, r2, var, fun v A' B' pa g1 g2 g3 g4 st d => k v A' B' st.up (Z.go st) ⟨pa, ⟨by omega, by omega, by omega, g4⟩, d⟩⟩) (evs ev_cv) (fun _ _ _ e ⟨pa, q1, q2⟩ => ⟨pa, q1, dp_mono e q2⟩) fun A u v e p1 p2 => by
    obtain ⟨pa, q1, q2⟩ := p1
    subst p2
    exact EvP.imp (P := isD K (eP pa)) (ev_ixT (ds := [.str "same", eP pa]) (j := 1) (ev_var rfl q2) (ev_var rfl (.int _)) rfl rfl) fun A v _ p => ⟨pa, q1, p⟩
/-- [..], the items draw -/
theorem evs_lst {Ps : List (Hp → V → Prop)} (h : EvSA s an tA σ A0 fun A vs => PsAt A Ps vs) (m : ∀ A A' vs, Ex A A' → PsAt A Ps vs → PsAt A' Ps vs) (hl : ∀ A vs, PsAt A Ps vs → vs.length ≤ 1000) : EvS s an (tLst tA) σ A0 fun A v => ∃ a vs, v = .ref a ∧ A a = some (.lst vs) ∧ PsAt A Ps vs := fun A B a b Z Q q =>
  h A B a b Z _ fun vs A1 B1 s1 z1 p => ⟨Nat.le_trans (hl _ _ p) (by decide), fun x hx => q _ (upd A1 x (.lst vs)) _ (s1.go (.new s1.le hx)) (z1.go (.new s1.le hx)) ⟨x, vs, rfl, upd_same, m _ _ _ (StpM.new (M := fun _ => False) s1.le hx).kn p⟩⟩
/-- x = [..], a list that will change, the items draw -/
theorem z_new {i : Nat} {P : Hp → List V → Prop} (S : Tot (fun a => a = s) A0 B0 A B) (Z : SS s an A B) (h : EvSA s an tA σ A P) (hl : ∀ A vs, P A vs → vs.length ≤ 1000) (k : ∀ l vs A' B', Stq s A B A' B' → P A' vs → Tot (fun a => a = s) A0 B0 A' (upd B' l (.lst vs)) → SS s an A' (upd B' l (.lst vs)) → Own A0 B0 A' (upd B' l (.lst vs)) l (.lst vs) → D.nx (σ.set i (some (.ref l))) (upd B' l (.lst vs))) : tAsg (tLst tA) (gName i) D σ B :=
  h A B (Ex.refl _) S.le Z _ fun vs A1 B1 s1 z1 p => ⟨Nat.le_trans (hl A1 vs p) (by decide), fun l hn => by
    obtain ⟨S1, O1⟩ := (S.goS s1).newU (o := .lst vs) hn
    exact k l vs A1 B1 s1 p S1 (z1.go (.newU s1.le hn)) O1⟩
theorem z_forE {g : TG} {ts : TS} (S : Tot (fun a => a = s) A0 B0 A B) (Z : SS s an A B) (h : EvS s an te σ A P) (k : ∀ v A' B', Stq s A B A' B' → Tot (fun a => a = s) A0 B0 A' B' → SS s an A' B' → P A' v → tFor (iList K (tC v)) g ts D σ B') : tFor (iList K te) g ts D σ B :=
  h A B (Ex.refl _) S.le Z _ fun v A1 B1 t z p => k v A1 B1 t (S.goS t) z p
/-- x.append(e), told for this heap alone -/
theorem z_appR {l : Addr} {xs : List V} (ho : ∀ A, EvP ta σ A fun _ v => v = .ref l) (h : ∀ B1, Stp A B A B1 → Tot (fun a => a = s) A0 B0 A B1 → SS s an A B1 → Own A0 B0 A B1 l (.lst xs) → ∀ Q : VK, (∀ v A' B', Stq s A B1 A' B' → SS s an A' B' → P A' v → Q v B') → te σ B1 Q) (S : Tot (fun a => a = s) A0 B0 A B) (Z : SS s an A B) (O : Own A0 B0 A B l (.lst xs)) (hls : l ≠ s) (hl : xs.length ≤ 1000000)
    (k : ∀ v A' B', Stq s A B A' B' → P A' v → Tot (fun a => a = s) A0 B0 A' (upd B' l (.lst (xs ++ [v]))) → SS s an A' (upd B' l (.lst (xs ++ [v]))) → Own A0 B0 A' (upd B' l (.lst (xs ++ [v]))) l (.lst (xs ++ [v])) → D.nx σ (upd B' l (.lst (xs ++ [v])))) :
    tDrop (tBM K "list" rAppend ta (tCons te tNil)) D σ B := ho A A B (Ex.refl _) S.le _ fun v A1 B1 s1 e => by
  subst e
  have s1 := s1.back (Ex.refl _)
  have O1 := O.go s1
  refine ⟨.inl ⟨rfl, xs, SqL.of O1.at_⟩, h B1 s1 (S.go s1) (Z.go s1) O1 _ fun w A2 B2 s2 z2 p => ?_⟩
  have O2 := O1.goM s2 hls
  exact ⟨l, xs, w, rfl, rfl, O2.at_, Nat.lt_of_le_of_lt hl (by decide), k w A2 B2 (s1.up.trans s2) p (((S.go s1).goS s2).mut O2) (z2.putO hls) O2.put⟩
theorem ev_isBool {b : Bool} (h : EvP te σ A0 (isV (.bl b))) : EvD K (tCB (rIsi K) (tCons te (tCons (tC (.ty "bool")) tNil))) σ A0 (.bool true) := fun A B a c Q q => h A B a c _ fun v A1 B1 s1 p => by
  subst p
  exact ⟨.bl b, .ty "bool", .type "bool", .type "bool", true, rfl, .ty _, .base (.bl b), rfl, q _ A1 B1 s1 (.bl true)⟩
end
-- W33
section
variable {P : Program} {w : World} {K : PySem.W.Frag} {mg : Str → Option Value} {base : Heap} {CR CC : Addr}
theorem stq_back {s : Addr} {A As A2 B B2 : Hp} (e : Ex A As) (t : Stq s As B A2 B2) : Stq s A B A B2 := ⟨Ex.refl _, (e.trans t.kn).trans t.le, t.al, fun _ _ z => z, t.th⟩
theorem ok_law (Bm : Bl mg) (T : Txt K CR CC) (O_l_state : OkF P w K mg base 2 "_law_state" ["_law_script", "_law_start", "_law_many"] (sp_l_state K CR CC)) (O_l_letters : OkF P w K mg base 2 "_law_letters" ["_law_state_here", "_law_most"] (sp_l_letters K CR CC)) (O_l_maker : OkF P w K mg base 3 "_law_maker" ["_law_letters_here", "_law_state_here", "_law_most"] (sp_l_maker K CR CC)) (O_l_variant : OkF P w K mg base 2 "_law_variant" ["_law_letters_here", "_law_state_here", "_law_parts"] (sp_l_variant K CR CC)) (M_Rw : OkC P w K mg base 2 "Rewriter" CR ["self", "letters", "lead", "finals", "table"] (sp_Rw_init K CR CC)) (O_same : OkF P w K mg base 5 "same" ["first", "second"] (sp_same K CR CC)) (O_l_bend : OkF P w K mg base 2 "_law_bend" ["_law_letters_here", "_law_state_here", "_law_parts"] (sp_l_bend K CR CC)) (O_l_do_the_same : OkF P w K mg base 2 "_law_do_the_same" ["_law_letters_here", "_law_first", "_law_second"] (sp_l_do_the_same K CR CC)) (O_judge_same : OkF P w K mg base 4 "judge_same" ["first", "second", "paper"] (sp_judge_same K CR CC)) (O_l_all_rows : OkF P w K mg base 1 "_law_all_rows" ["_law_letters_here", "_law_many", "_law_others"] (sp_l_all_rows K CR CC)) (O_l_spoilt : OkF P w K mg base 4 "_law_spoilt" ["_law_letters_here", "_law_state_here", "_law_paper", "_law_many", "_law_others"] (sp_l_spoilt K CR CC)) (O_l_taken : OkF P w K mg base 3 "_law_taken" ["_law_first", "_law_second", "_law_paper"] (sp_l_taken K CR CC)) (O_l_next : OkF P w K mg base 1 "_law_next" ["_law_state_here", "_law_many"] (sp_l_next K CR CC)) {fa : Addr} {fd : FuncData} (F : Fun K "law" "law" s_law fa fd) : FnOk P w K mg base CX0 6 fa fd ["_law_script"] (sp_law K CR CC) := by
  refine F.ok sc_law (fun vs H Q E h => ?_) (fun cdv Ar outer s H vs Q E hr h => ?_)
  · obtain ⟨A, v, ns, rfl, _⟩ := h
    rfl
  · obtain ⟨A0, v, ns, rfl, hx, hv, kk0⟩ := h
    have hu := hu_of hr
    refine ⟨_, (pss_cons (ps_set (i := 1) sc_law.nd rfl (Or.inl rfl) (pe_F O_l_state (hr.mono (by decide)) rfl (pa_cons (pv 0) (pa_cons pe_int (pa_cons pe_int pa_nil)))))
      (pss_cons (ps_set (i := 2) sc_law.nd rfl (Or.inl rfl) (pe_F O_l_letters (hr.mono (by decide)) rfl (pa_cons (pv 1) (pa_cons pe_int pa_nil))))
      (pss_cons (ps_set (i := 3) sc_law.nd rfl (Or.inl rfl) (pe_F O_l_maker (hr.mono (by decide)) rfl (pa_cons (pv 2) (pa_cons (pv 1) (pa_cons pe_int pa_nil)))))
      (pss_cons (ps_set (i := 4) sc_law.nd rfl (Or.inl rfl) (pe_F O_l_variant (hr.mono (by decide)) rfl (pa_cons (pv 2) (pa_cons (pv 1) (pa_cons (pv 3) pa_nil)))))
      (pss_cons (ps_set (i := 5) sc_law.nd rfl (Or.inl rfl) (pe_M M_Rw (hr.mono (by decide)) rfl (pa_cons (pv 2) (pa_cons (pe_ix (ix_K K) (pv 3) pe_int (fun _ _ => rfl)) (pa_cons (pe_ix (ix_K K) (pv 3) pe_int (fun _ _ => rfl)) (pa_cons (pe_ix (ix_K K) (pv 3) pe_int (fun _ _ => rfl)) pa_nil))))))
      (pss_cons (ps_set (i := 6) sc_law.nd rfl (Or.inl rfl) (pe_ix (ix_K K) (pe_F O_same (hr.mono (by decide)) rfl (pa_cons (pv 5) (pa_cons (pe_M M_Rw (hr.mono (by decide)) rfl (pa_cons (pv 2) (pa_cons (pe_ix (ix_K K) (pv 4) pe_int (fun _ _ => rfl)) (pa_cons (pe_ix (ix_K K) (pv 4) pe_int (fun _ _ => rfl)) (pa_cons (pe_ix (ix_K K) (pv 4) pe_int (fun _ _ => rfl)) pa_nil))))) pa_nil))) pe_int (fun _ _ => rfl)))
      (pss_cons (ps_for PassesOwn.never rfl (list_K K (pe_lst (pa_cons (pv 4) (pa_cons (pe_F O_l_bend (hr.mono (by decide)) rfl (pa_cons (pv 2) (pa_cons (pv 1) (pa_cons (pv 4) pa_nil)))) (pa_cons (pe_F O_l_maker (hr.mono (by decide)) rfl (pa_cons (pv 2) (pa_cons (pv 1) (pa_cons pe_int pa_nil)))) (pa_cons (pe_F O_l_bend (hr.mono (by decide)) rfl (pa_cons (pv 2) (pa_cons (pv 1) (pa_cons (pv 4) pa_nil)))) pa_nil)))))) (pg_name (i := 7) sc_law.nd rfl (by first | exact Or.inl rfl | exact Or.inr rfl))
       (pss_cons (ps_set (i := 8) sc_law.nd rfl (Or.inl rfl) (pe_M M_Rw (hr.mono (by decide)) rfl (pa_cons (pv 2) (pa_cons (pe_ix (ix_K K) (pv 7) pe_int (fun _ _ => rfl)) (pa_cons (pe_ix (ix_K K) (pv 7) pe_int (fun _ _ => rfl)) (pa_cons (pe_ix (ix_K K) (pv 7) pe_int (fun _ _ => rfl)) pa_nil))))))
        (pss_cons (ps_set (i := 9) sc_law.nd rfl (Or.inl rfl) (b_len K rfl Bm.m_len (pa_cons (pe_ix (ix_K K) (pv 3) pe_int (fun _ _ => rfl)) pa_nil)))
        (pss_cons (ps_set (i := 10) sc_law.nd rfl (Or.inl rfl) (b_len K rfl Bm.m_len (pa_cons (pe_ix (ix_K K) (pv 7) pe_int (fun _ _ => rfl)) pa_nil)))
        (pss_cons (ps_set (i := 11) sc_law.nd rfl (Or.inl rfl) (pe_lst (pa_cons (pv 6) (pa_cons (pe_tup (pa_cons (pe_tup pa_nil) (pa_cons (pe_tup pa_nil) (pa_cons (pe_tup pa_nil) pa_nil)))) (pa_cons (pe_tup (pa_cons (pe_ix (ix_K K) (pv 6) pe_int (fun _ _ => rfl)) (pa_cons (pe_ix (ix_K K) (pv 6) pe_int (fun _ _ => rfl)) (pa_cons (pe_F O_l_all_rows (hr.mono (by decide)) rfl (pa_cons (pv 2) (pa_cons (pv 9) (pa_cons (pv 10) pa_nil)))) pa_nil)))) pa_nil)))))
        (pss_cons (ps_expr (bm_K K PySem.F.plainAttrs_list PySem.F.slot_list_append PySem.F.type_list_append mt_append (pv 11) (pa_cons (pe_tup (pa_cons (pe_tupRg rfl rfl Bm.m_tuple (prg_1 rfl Bm.m_range (pv 9))) (pa_cons (pe_tupRg rfl rfl Bm.m_tuple (prg_1 rfl Bm.m_range (pv 10))) (pa_cons (pe_tup pa_nil) pa_nil)))) pa_nil)))
        (pss_cons (ps_for PassesOwn.never rfl (pi_range1 rfl Bm.m_range (pa_cons pe_int pa_nil)) (pg_name (i := 12) sc_law.nd rfl (by first | exact Or.inl rfl | exact Or.inr rfl))
         (pss_one (ps_expr (bm_K K PySem.F.plainAttrs_list PySem.F.slot_list_append PySem.F.type_list_append mt_append (pv 11) (pa_cons (pe_F O_l_spoilt (hr.mono (by decide)) rfl (pa_cons (pv 2) (pa_cons (pv 1) (pa_cons (pe_ix (ix_K K) (pv 11) (pe_op op_mul (pe_F O_l_next (hr.mono (by decide)) rfl (pa_cons (pv 1) (pa_cons pe_int pa_nil))) (pe_op op_sub (b_len K rfl Bm.m_len (pa_cons (pv 11) pa_nil)) pe_int)) (fun _ _ => rfl)) (pa_cons (pv 9) (pa_cons (pv 10) pa_nil)))))) pa_nil)))))
        (pss_cons (ps_set (i := 13) sc_law.nd rfl (Or.inl rfl) (pe_F O_l_do_the_same (hr.mono (by decide)) rfl (pa_cons (pv 2) (pa_cons (pv 3) (pa_cons (pv 7) pa_nil)))))
        (pss_one (ps_for PassesOwn.never rfl (list_K K (pv 11)) (pg_name (i := 14) sc_law.nd rfl (by first | exact Or.inl rfl | exact Or.inr rfl))
         (pss_cons (ps_set (i := 15) sc_law.nd rfl (Or.inl rfl) (pe_F O_judge_same (hr.mono (by decide)) rfl (pa_cons (pv 5) (pa_cons (pv 8) (pa_cons (pv 14) pa_nil)))))
          (pss_one (ps_if (PW.pt (pw_or (pt_not (pt_val (b_isi K rfl Bm.m_isinstance (pa_cons (pv 15) (pa_cons (pe_bltn (v := .ty "bool") rfl Bm.m_bool (by decide +kernel) rfl) pa_nil))))) (pw_or (pt_cmpR (ne_K K hr) (pv 15) (pe_F O_l_taken (hr.mono (by decide)) rfl (pa_cons (pv 3) (pa_cons (pv 7) (pa_cons (pv 14) pa_nil)))) (nomark _)) (pw_or1 (PW.pt (pw_and (pt_val (pv 15)) (pw_and1 (pt_not (pt_val (pv 13)))))))))) (pss_one (ps_ret pe_bl)) pss_nil)))))))))))))
      (pss_one (ps_ret pe_bl))))))))), ?_⟩
    refine ⟨v, rfl, A0, v, ns, rfl, hx, hv, fun s an ms A1 B1 s1 hHs hA1 hB1 hms dn => ?_⟩
    have S1 : Tot (fun a => a = s) A1 B1 A1 B1 := .refl s1.le
    have Z1 : SS s an A1 B1 := ⟨hA1, 0, hB1⟩
    have N1 : NumA K A1 an := ⟨ms, hms, dn⟩
    have kk : RetS s an A1 B1 Q (isD K (.bool true)) := fun v A' B' t z p => kk0 v A' B' (stp_of (s1.up.trans t) hHs) p
    walk_at "nx"
    refine z_asg S1 Z1 (evs_letters (K := K) (CR := CR) (CC := CC) N1 rfl) fun v2 A2 B2 s2 S2 Z2 p2 => ?_
    obtain ⟨L, lok, rfl⟩ := p2
    have N2 := N1.mono s2.kn
    have l1 := lok.pos
    have l2 := lok.two
    walk_at "nx"
    refine z_asg S2 Z2 (evs_maker (K := K) (CR := CR) (CC := CC) N2 lok rfl rfl) fun v3 A3 B3 s3 S3 Z3 p3 => ?_
    obtain ⟨F, mk, d3⟩ := p3
    have N3 := N2.mono s3.kn
    have wf := mk.wf
    walk_at "nx"
    refine z_asg S3 Z3 (evs_variant (K := K) (CR := CR) (CC := CC) N3 lok mk rfl rfl (ev_var rfl d3)) fun v4 A4 B4 s4 S4 Z4 p4 => ?_
    obtain ⟨G, ix, mv, wb, var, hG, d4⟩ := p4
    have N4 := N3.mono s4.kn
    have d3 := dp_mono s4.kn d3
    walk_at "nx"
    refine z_asg S4 Z4 (evs (ev_rwP (K := K) (CR := CR) (CC := CC) lok wf (ev_var rfl (.str L)) (ev_var rfl d3))) fun v5 A5 B5 s5 S5 Z5 p5 => ?_
    obtain ⟨pf, rfl, RF⟩ := p5
    have N5 := N4.mono s5.kn
    have d3 := dp_mono s5.kn d3
    have d4 := dp_mono s5.kn d4
    walk_at "nx"
    refine z_asg S5 Z5 (evs_same (K := K) (CR := CR) (CC := CC) var (ev_varP rfl fun A e => ⟨pf, rfl, RF.mono e⟩) (ev_rwP lok wb.wf (ev_var rfl (.str L)) (ev_var rfl d4))) fun v6 A6 B6 s6 S6 Z6 p6 => ?_
    have N6 := N5.mono s6.kn
    have d3 := dp_mono s6.kn d3
    have d4 := dp_mono s6.kn d4
    have RF := RF.mono s6.kn
    obtain ⟨pa0, pk0, d6⟩ := p6
    walk_at "nx"
    have hbend : EvS s an (tCall (sp_l_bend K CR CC) [] E0 (tCons (tVar 2) (tCons (tVar 1) (tCons (tVar 4) tNil)))) [some v, some (.ref s), some (.str L), some v3, some v4, some (.ref pf), some v6, none, none, none, none, none, none, none, none, none] A6 (OthP K L) := evs_bend N6 lok wb rfl rfl (ev_var rfl d4)
    refine z_forE S6 Z6 (evs_lst (Ps := [isD K (eParts G), OthP K L, OthP K L, OthP K L]) (evsa_cons (evs (ev_var rfl d4)) mon_d (evsa_cons hbend mon_oth (evsa_cons (EvS.imp (evs_maker N6 lok rfl rfl) fun A v _ ⟨X, h1, h2⟩ => ⟨X, h1.wf, h2⟩) mon_oth (evsa_cons hbend mon_oth evsa_nil)))) (fun A A' vs e r => ?_) fun A vs r => ?_) fun v7 A7 B7 s7 S7 Z7 p7 => ?_
    · obtain ⟨a, b, c, d, rfl, r1, r2, r3, r4⟩ := ps_four r
      exact ⟨mon_d _ _ _ e r1, mon_oth _ _ _ e r2, mon_oth _ _ _ e r3, mon_oth _ _ _ e r4, trivial⟩
    · obtain ⟨a, b, c, d, rfl, r1, r2, r3, r4⟩ := ps_four r
      exact Nat.le_of_ble_eq_true rfl
    obtain ⟨l7, vs, rfl, hl7, r7⟩ := p7
    obtain ⟨u1, u2, u3, u4, rfl, q1, ⟨X1, w1, q2⟩, ⟨X2, w2, q3⟩, ⟨X3, w3, q4⟩⟩ := ps_four r7
    have dl : Dp K A7 (.ref l7) (.list ([G, X1, X2, X3].map eParts)) := .lst (SqL.of hl7) (.cons q1 (.cons q2 (.cons q3 (.cons q4 .nil))))
    have hwf : ∀ X ∈ [G, X1, X2, X3], Wf L X := fun X hX => by
      simp only [List.mem_cons, List.not_mem_nil, or_false] at hX
      rcases hX with rfl | rfl | rfl | rfl
      · exact wb.wf
      · exact w1
      · exact w2
      · exact w3
    have N7 := N6.mono s7.kn
    have d3 := dp_mono s7.kn d3
    have d6 := dp_mono s7.kn d6
    have RF := RF.mono s7.kn
    refine st_for (K := K) (xs := [G, X1, X2, X3]) (enc := eParts) (src_list (ev_cd dl)) S7.le fun A8 B8 s8 => ⟨fun i σ A B => ∃ (z7 z8 z9 z10 z11 z12 z13 z14 z15 : Option V), σ = [some v, some (.ref s), some (.str L), some v3, some v4, some (.ref pf), some v6, z7, z8, z9, z10, z11, z12, z13, z14, z15] ∧ Tot (fun a => a = s) A1 B1 A B ∧ SS s an A B, ⟨_, _, _, _, _, _, _, _, _, rfl, S7.go s8, Z7.go s8⟩, ?_, ?_⟩
    · rintro i X x σ' A B A9 B9 hi hA hB ⟨z7, z8, z9, z10, z11, z12, z13, z14, z15, rfl, S8, Z8⟩ s9 px
      have S9 := S8.go s9
      have Z9 := Z8.go s9
      have wx := hwf X (List.mem_of_getElem? hi)
      have xpos := wx.pos
      have xmax := wx.max
      have fpos := mk.pos
      have fmax := mk.max
      have hE9 : Ex A7 A9 := (s8.kn.trans hA).trans s9.kn
      dsimp only [gName]
      refine z_asg S9 Z9 (evs (ev_rwP (K := K) (CR := CR) (CC := CC) lok wx (ev_var rfl (.str L)) (ev_var rfl px))) fun v8 A10 B10 s10 S10 Z10 p10 => ?_
      obtain ⟨px8, rfl, RX⟩ := p10
      walk_at "nx"
      have hE10 := hE9.trans s10.kn
      refine z_asg (P := isV (.int (F.fin.length : Nat))) S10 Z10 (evs (ev_vint (ev_is (ev_len (d := .list (F.fin.map eS)) (ev_ixT (ds := [.str F.lead, .list (F.fin.map eS), .list (F.tab.map eRL)]) (j := 1) (ev_var rfl (dp_mono hE10 d3)) (ev_c fun _ => .int _) rfl rfl) rfl) (by rw [List.length_map])))) fun v9 A11 B11 s11 S11 Z11 p11 => ?_
      subst p11
      walk_at "nx"
      have px11 := dp_mono (s10.kn.trans s11.kn) px
      refine z_asg (P := isV (.int (X.fin.length : Nat))) S11 Z11 (evs (ev_vint (ev_is (ev_len (d := .list (X.fin.map eS)) (ev_ixT (ds := [.str X.lead, .list (X.fin.map eS), .list (X.tab.map eRL)]) (j := 1) (ev_var rfl px11) (ev_c fun _ => .int _) rfl rfl) rfl) (by rw [List.length_map])))) fun v10 A12 B12 s12 S12 Z12 p12 => ?_
      subst p12
      walk_at "nx"
      have hE12 : Ex A7 A12 := (hE10.trans s11.kn).trans s12.kn
      have d6' := dp_mono hE12 d6
      refine z_new (P := fun A vs => PsAt A [PapP K L 0, PapP K L 0, PapP K L 0] vs) S12 Z12 (evsa_cons ?_ mon_pap (evsa_cons ?_ mon_pap (evsa_cons ?_ mon_pap evsa_nil))) (fun A vs r => by rw [(ps_same r).1]; decide) fun l11 vs A13 B13 s13 p13 S13 Z13 O13 => ?_
      · exact evs (ev_varP rfl fun A e => ⟨pa0, pk0, dp_mono e d6'⟩)
      · exact evs (EvP.imp (P := isD K (eP ⟨[], [], []⟩)) (ev_pap (ev_tup ead_nil (Nat.zero_le _)) (ev_tup ead_nil (Nat.zero_le _)) (ev_tup ead_nil (Nat.zero_le _))) fun A v _ p => ⟨⟨[], [], []⟩, ⟨Nat.zero_le _, Nat.zero_le _, Nat.zero_le _, (fun _ h => absurd h List.not_mem_nil)⟩, p⟩)
      · refine EvS.imp (evs_tup3 (P1 := isD K (.tuple (pa0.gone.map .int))) (P2 := isD K (.tuple (pa0.far.map .int))) (P3 := fun A v => ∃ rows : List PRow, (∀ r ∈ rows, RT L r) ∧ rows.length ≤ 96 ∧ Dp K A v (.tuple (rows.map eR))) (evs (ev_ixT (ds := [.tuple (pa0.gone.map .int), .tuple (pa0.far.map .int), .tuple (pa0.rows.map eR)]) (j := 0) (ev_var rfl d6') (ev_c fun _ => .int _) rfl rfl)) (evs (ev_ixT (ds := [.tuple (pa0.gone.map .int), .tuple (pa0.far.map .int), .tuple (pa0.rows.map eR)]) (j := 1) (ev_var rfl d6') (ev_c fun _ => .int _) rfl rfl)) (evs (ev_call (R := fun A vs => PsAt A [isV (.str L), isV (.int (F.fin.length : Nat)), isV (.int (X.fin.length : Nat))] vs) (by walk_at "eap") fun A B vs e f pv Q k => ?_)) mon_d mon_d (fun _ _ _ e ⟨rows, h1, h2, h3⟩ => ⟨rows, h1, h2, dp_mono e h3⟩)) fun A v _ p => ?_
        · obtain ⟨a, b, c, rfl, rfl, rfl, rfl⟩ := ps_three pv
          exact ⟨A, L, F.fin.length, X.fin.length, rfl, f, lok, fmax, xmax, k⟩
        · obtain ⟨a, b, c, d, rfl, ha, r1, r2, rows, h1, h2, r3⟩ := p
          have g1 := pk0.g
          have g2 := pk0.f
          exact ⟨⟨pa0.gone, pa0.far, rows⟩, ⟨g1, g2, by show rows.length ≤ _; omega, h1⟩, .tup (SqT.of ha) (.cons r1 (.cons r2 (.cons r3 .nil)))⟩
      obtain ⟨hvl, hvs⟩ := ps_same p13
      have hls11 := O13.nes hB1
      walk_at "nx"
      have hrg : ∀ k : Nat, (List.range k).map (fun i => PyData.int (i : Nat)) = ((List.range k).map fun i : Nat => (i : Int)).map .int := fun k => by rw [List.map_map]; rfl
      refine z_app (K := K) (P := PapP K L 0) (ev_ref rfl) (evs (EvP.imp (P := isD K (eP ⟨(List.range F.fin.length).map fun i : Nat => (i : Int), (List.range X.fin.length).map fun i : Nat => (i : Int), []⟩)) (ev_pap (ev_is (ev_tupRg (n := F.fin.length) (by walk_at "ev") (by omega)) (by rw [hrg])) (ev_is (ev_tupRg (n := X.fin.length) (by walk_at "ev") (by omega)) (by rw [hrg])) (ev_tup ead_nil (Nat.zero_le _))) fun A v _ p => ⟨⟨(List.range F.fin.length).map fun i : Nat => (i : Int), (List.range X.fin.length).map fun i : Nat => (i : Int), []⟩, ⟨by show (List.map _ _).length ≤ _; rw [List.length_map, List.length_range]; omega, by show (List.map _ _).length ≤ _; rw [List.length_map, List.length_range]; omega, Nat.zero_le _, (fun _ h => absurd h List.not_mem_nil)⟩, p⟩)) S13 Z13 O13 hls11 (by omega) fun v14 A14 B14 s14 p14 S14 Z14 O14 => ?_
      have hE14 : Ex A7 A14 := (hE12.trans s13.kn).trans s14.kn
      walk_at "nx"
      refine st_for (K := K) (xs := List.range 6) (enc := fun i => .int (i : Nat)) (src_range1 (n := 6) (ev_c fun _ => .int _) (by decide)) S14.le fun A15 B15 s15 => ⟨fun i σ A B => ∃ (us : List V) (z12 : Option V), σ = [some v, some (.ref s), some (.str L), some v3, some v4, some (.ref pf), some v6, some x, some (.ref px8), some (.int (F.fin.length : Nat)), some (.int (X.fin.length : Nat)), some (.ref l11), z12, z13, z14, z15] ∧ Tot (fun a => a = s) A1 B1 A B ∧ SS s an A B ∧ Own A1 B1 A B l11 (.lst us) ∧ us.length = 4 + i ∧ ∀ u ∈ us, PapP K L i A u, ⟨vs ++ [v14], _, rfl, S14.go s15, Z14.go s15, O14.go s15, by rw [List.length_append, hvl]; rfl, fun u hu => ?_⟩, ?_, ?_⟩
      · rcases List.mem_append.mp hu with hu | hu
        · exact (hvs u hu).mono (s14.kn.trans s15.kn)
        · rw [List.mem_singleton] at hu
          subst hu
          exact p14.mono s15.kn
      · rintro i _ y σ' A B A16 B16 hi6 hA6 hB6 ⟨us, z12, rfl, S15, Z15, O15, hul, hus⟩ s16 py
        have hi6 : i < 6 := by
          have := (List.getElem?_eq_some_iff.mp hi6).1
          rw [List.length_range] at this
          exact this
        have S16 := S15.go s16
        have Z16 := Z15.go s16
        have O16 := O15.go s16
        have hE16 : Ex A14 A16 := (s15.kn.trans hA6).trans s16.kn
        have N16 := N7.mono (hE14.trans hE16)
        have hus := fun u hu => (hus u hu).mono s16.kn
        obtain ⟨ps, hps, _⟩ := paps hus
        have hpl : ps.length = us.length := by rw [da_len hps, List.length_map]
        dsimp only [gName]
        refine z_appR (K := K) (P := PapP K L (i + 1)) (ev_ref rfl) (fun B1' t1 Sx Zx Ox Qx kx => ?_) S16 Z16 O16 hls11 (by omega) fun v17 A17 B17 s17 p17 S17 Z17 O17 => ?_
        · obtain ⟨Sf, ef⟩ := Sx.frz Ox
          have dpl : Dp K (upd A16 l11 (.lst us)) (.ref l11) (.list (ps.map eP)) := .lst (SqL.of upd_same) (da_mono ef hps)
          have hidx : EvS s an (tOp (rIx K) (tVar 11) (tOp (rI CMul fun i j => .int (i * j)) (tCall (sp_l_next K CR CC) [] E0 (tCons (tVar 1) (tCons (tC (.int 2)) tNil))) (tOp (rI0 fun i j => .int (i - j)) (tCB (rLen K) (tCons (tVar 11) tNil)) (tC (.int 1))))) [some v, some (.ref s), some (.str L), some v3, some v4, some (.ref pf), some v6, some x, some (.ref px8), some (.int (F.fin.length : Nat)), some (.int (X.fin.length : Nat)), some (.ref l11), some y, z13, z14, z15] (upd A16 l11 (.lst us)) (fun _ u => u ∈ us) := by
            refine evs_op (P1 := fun A u => u = .ref l11 ∧ A l11 = some (.lst us)) (P2 := fun _ u => ∃ j : Nat, j < us.length ∧ u = .int (j : Nat)) (evs (ev_varP rfl fun A e => ⟨rfl, e _ _ upd_same⟩)) (evs_op (P1 := fun _ u => ∃ r : Nat, r < 2 ∧ u = .int (r : Nat)) (P2 := isV (.int ((us.length - 1 : Nat) : Int))) (evs_next (CR := CR) (CC := CC) (m := 2) (N16.mono ef) rfl (by walk_at "ev") (by decide) (by decide)) (evs (ev_vint (ev_is (ev_subI (i := (us.length : Nat)) (j := 1) (ev_is (ev_len (d := .list (ps.map eP)) (ev_var rfl dpl) rfl) (by rw [List.length_map, hpl])) (ev_c fun _ => .int _)) (by congr 1; omega)))) (fun _ _ _ _ h => h) fun A u v e p1 p2 => ?_) (fun _ _ _ e ⟨h1, h2⟩ => ⟨h1, e _ _ h2⟩) fun A u v e p1 p2 => ?_
            · obtain ⟨r, hr, rfl⟩ := p1
              subst p2
              refine EvP.imp (P := isD K (.int ((r : Nat) * ((us.length - 1 : Nat) : Int)))) (ev_mulI (ev_var rfl (.int _)) (ev_var rfl (.int _)) (.inl ⟨by omega, by omega⟩)) fun A v _ p => ⟨r * (us.length - 1), ?_, by rw [dp_int p, Int.natCast_mul]⟩
              have : r = 0 ∨ r = 1 := by omega
              rcases this with rfl | rfl <;> omega
            · obtain ⟨rfl, hl⟩ := p1
              obtain ⟨j, hj, rfl⟩ := p2
              exact EvP.imp (P := isV us[j]) (ev_ixX (K := K) (l := l11) (j := j) (ev_varP rfl fun _ _ => rfl) hl (ev_var rfl (.int _)) rfl (List.getElem?_eq_getElem hj)) fun A v _ p => by rw [p]; exact List.getElem_mem hj
          refine ⟨_, rfl, _, rfl, hidx _ B1' (Ex.refl _) Sf.le (Zx.frz hls11) _ fun u A2 B2 t2 z2 hu => ⟨_, rfl, _, rfl, ?_⟩⟩
          have t2' := stq_back ef t2
          have Z2' : SS s an A16 B2 := ⟨Zx.1, z2.2⟩
          obtain ⟨pa, pk, dpa⟩ := hus u hu
          exact ⟨A16, s, an, L, u, pa, i, F.fin.length, X.fin.length, rfl, t2'.le, Z2', N16, lok, dpa, pk, by omega, by omega, by omega, by omega, by omega, fun v' A' B' t z p => kx v' A' B' (t2'.trans t) z p⟩
        · refine ⟨A17, (hA6.trans s16.kn).trans s17.kn, S17.le, us ++ [v17], _, rfl, S17, Z17, O17, by rw [List.length_append, hul]; rfl, fun u hu => ?_⟩
          rcases List.mem_append.mp hu with hu | hu
          · exact ((hus u hu).mono s17.kn).up (by omega)
          · rw [List.mem_singleton] at hu
            subst hu
            exact p17
      · rintro σ' A B hA6 hB6 ⟨us, z12, rfl, S15, Z15, O15, hul, hus⟩
        obtain ⟨S16, e16⟩ := S15.frz O15
        have Z16 := Z15.frz (o := .lst us) hls11
        obtain ⟨ps, hps, hpk⟩ := paps hus
        have dpl : Dp K (upd A l11 (.lst us)) (.ref l11) (.list (ps.map eP)) := .lst (SqL.of upd_same) (da_mono e16 hps)
        have hE16 : Ex A14 (upd A l11 (.lst us)) := (s15.kn.trans hA6).trans e16
        have d3' := dp_mono (hE14.trans hE16) d3
        have hx16 : Ex A9 (upd A l11 (.lst us)) := ((((s10.kn.trans s11.kn).trans s12.kn).trans s13.kn).trans s14.kn).trans hE16
        have px' := dp_mono hx16 px
        generalize upd A l11 (.lst us) = A16 at *
        walk_at "nx"
        refine z_asg (P := fun _ v => ∃ b : Bool, v = .bl b ∧ ((∀ x : Str, (∀ c ∈ tl x, c ∈ tl L) → rwS F L x = rwS X L x) → b = true)) S16 Z16 (evs (ev_call (R := fun A vs => PsAt A [isV (.str L), isD K (eParts F), isD K (eParts X)] vs) (by walk_at "eap") fun A B vs e f pv Q k => ?_)) fun v13 A17 B17 s17 S17 Z17 p17 => ?_
        · obtain ⟨a, b, c, rfl, rfl, r2, r3⟩ := ps_three pv
          exact ⟨A, L, F, X, b, c, rfl, f, lok, wf, wx, r2, r3, k⟩
        obtain ⟨tr, rfl, htr⟩ := p17
        have dpl := dp_mono s17.kn dpl
        have d3' := dp_mono s17.kn d3'
        have px' := dp_mono s17.kn px'
        have RF' := RF.mono ((hE14.trans hE16).trans s17.kn)
        have RX' := RX.mono (((((s11.kn.trans s12.kn).trans s13.kn).trans s14.kn).trans hE16).trans s17.kn)
        walk_at "nx"
        refine st_for (K := K) (xs := ps) (enc := eP) (src_list (ev_var rfl dpl)) S17.le fun A18 B18 s18 => ⟨fun i σ A B => ∃ (z14 z15 : Option V), σ = [some v, some (.ref s), some (.str L), some v3, some v4, some (.ref pf), some v6, some x, some (.ref px8), some (.int (F.fin.length : Nat)), some (.int (X.fin.length : Nat)), some (.ref l11), z12, some (.bl tr), z14, z15] ∧ Tot (fun a => a = s) A1 B1 A B ∧ SS s an A B, ⟨_, _, rfl, S17.go s18, Z17.go s18⟩, ?_, ?_⟩
        · rintro i pa y σ' A B A19 B19 hi2 hA7 hB7 ⟨z14, z15, rfl, S18, Z18⟩ s19 py
          have S19 := S18.go s19
          have Z19 := Z18.go s19
          have po := (hpk pa (List.mem_of_getElem? hi2)).ok lok (by decide)
          have hE19 : Ex A17 A19 := (s18.kn.trans hA7).trans s19.kn
          have RF' := RF'.mono hE19
          have RX' := RX'.mono hE19
          have d3' := dp_mono hE19 d3'
          have px' := dp_mono hE19 px'
          dsimp only [gName]
          refine z_asg (P := isV (.bl (taken F X L.length pa))) S19 Z19 (evs (EvP.imp (P := isD K (.bool (taken F X L.length pa))) (ev_call (R := fun A vs => PsAt A [isV (.ref pf), isV (.ref px8), isD K (eP pa)] vs) (by walk_at "eap") fun A B vs e f pv Q k => ?_) fun A v _ p => dp_bl p)) fun v15 A20 B20 s20 S20 Z20 p20 => ?_
          · obtain ⟨a, b, c, rfl, rfl, rfl, r3⟩ := ps_three pv
            exact ⟨A, L, F, X, pf, px8, c, pa, rfl, f, RF'.mono e, RX'.mono e, r3, po, k⟩
          subst p20
          have d3' := dp_mono s20.kn d3'
          have px' := dp_mono s20.kn px'
          have py := dp_mono s20.kn py
          walk_at "nx"
          refine s_if (K := K) (b := false) S20 (et_is (b := (!true) || ((!(decide (taken F X L.length pa = taken F X L.length pa))) || (taken F X L.length pa && !tr))) (et_or (et_not (et_B (ev_isBool (b := taken F X L.length pa) (ev_varP rfl fun _ _ => rfl)))) fun _ => et_or (et_test (ev_neS (x := .bool (taken F X L.length pa)) (y := .bool (taken F X L.length pa)) (ev_var rfl (.bl _)) (ev_call (R := fun A vs => PsAt A [isD K (eParts F), isD K (eParts X), isD K (eP pa)] vs) (by walk_at "eap") fun A B vs e f pv Q k => ?_) rfl)) fun _ => et_and (et_B (ev_var rfl (.bl _))) fun _ => et_not (et_B (ev_var rfl (.bl _)))) ?_) (fun z => nomatch z) (fun _ A21 B21 s21 S21 => ?_)
          · obtain ⟨a, b, c, rfl, r1, r2, r3⟩ := ps_three pv
            exact ⟨A, L, F, X, a, b, c, pa, rfl, f, lok, wf, wx, r1, r2, r3, po, k⟩
          · cases ht : taken F X L.length pa with
            | false => rfl
            | true =>
              rw [htr fun x hx => taken_rw ht hx]
              rfl
          · walk_at "nx"
            exact ⟨A21, ((hA7.trans s19.kn).trans s20.kn).trans s21.kn, S21.le, _, _, rfl, S21, Z20.go s21⟩
        · rintro σ' A' B' hA7 hB7 ⟨z14, z15, rfl, S18, Z18⟩
          walk_at "nx"
          refine ⟨A', ?_, S18.le, _, _, _, _, _, _, _, _, _, rfl, S18, Z18⟩
          exact (hA.trans s9.kn).trans (hx16.trans (s17.kn.trans (s18.kn.trans hA7)))
    · rintro σ' A B hA hB ⟨z7, z8, z9, z10, z11, z12, z13, z14, z15, rfl, S8, Z8⟩
      walk_at "nx"
      exact z_ret S8 Z8 kk (evs (ev_c fun _ => .bl _))
end
-- W34
def d_Rw_init : He.DefD := ⟨("Rewriter", some "__init__"), "__init__", "Rewriter.__init__", defArgs s_Rw_init, defBody s_Rw_init, defScope s_Rw_init, [], []⟩
def d_Rw_is_whole : He.DefD := ⟨("Rewriter", some "_is_whole"), "_is_whole", "Rewriter._is_whole", defArgs s_Rw_is_whole, defBody s_Rw_is_whole, defScope s_Rw_is_whole, [], []⟩
def d_Rw_way : He.DefD := ⟨("Rewriter", some "way"), "way", "Rewriter.way", defArgs s_Rw_way, defBody s_Rw_way, defScope s_Rw_way, [], []⟩
def d_live_states : He.DefD := ⟨("live_states", none), "live_states", "live_states", defArgs s_live_states, defBody s_live_states, defScope s_live_states, [], []⟩
def d_live_way : He.DefD := ⟨("live_way", none), "live_way", "live_way", defArgs s_live_way, defBody s_live_way, defScope s_live_way, [], []⟩
def d_common : He.DefD := ⟨("common", none), "common", "common", defArgs s_common, defBody s_common, defScope s_common, [], []⟩
def d_owed : He.DefD := ⟨("owed", none), "owed", "owed", defArgs s_owed, defBody s_owed, defScope s_owed, [], []⟩
def d_Cm_init : He.DefD := ⟨("Comparison", some "__init__"), "__init__", "Comparison.__init__", defArgs s_Cm_init, defBody s_Cm_init, defScope s_Cm_init, [], []⟩
def d_Cm_gone : He.DefD := ⟨("Comparison", some "gone"), "gone", "Comparison.gone", defArgs s_Cm_gone, defBody s_Cm_gone, defScope s_Cm_gone, [], []⟩
def d_Cm_spot : He.DefD := ⟨("Comparison", some "_spot"), "_spot", "Comparison._spot", defArgs s_Cm_spot, defBody s_Cm_spot, defScope s_Cm_spot, [], []⟩
def d_Cm_start : He.DefD := ⟨("Comparison", some "start"), "start", "Comparison.start", defArgs s_Cm_start, defBody s_Cm_start, defScope s_Cm_start, [], []⟩
def d_Cm_step : He.DefD := ⟨("Comparison", some "step"), "step", "Comparison.step", defArgs s_Cm_step, defBody s_Cm_step, defScope s_Cm_step, [], []⟩
def d_Cm_differs : He.DefD := ⟨("Comparison", some "differs"), "differs", "Comparison.differs", defArgs s_Cm_differs, defBody s_Cm_differs, defScope s_Cm_differs, [], []⟩
def d_same : He.DefD := ⟨("same", none), "same", "same", defArgs s_same, defBody s_same, defScope s_same, [], []⟩
def d_are_gone : He.DefD := ⟨("are_gone", none), "are_gone", "are_gone", defArgs s_are_gone, defBody s_are_gone, defScope s_are_gone, [], []⟩
def d_row_holds : He.DefD := ⟨("row_holds", none), "row_holds", "row_holds", defArgs s_row_holds, defBody s_row_holds, defScope s_row_holds, [], []⟩
def d_judge_same : He.DefD := ⟨("judge_same", none), "judge_same", "judge_same", defArgs s_judge_same, defBody s_judge_same, defScope s_judge_same, [], []⟩
def d_l_cell : He.DefD := ⟨("_law_cell", none), "_law_cell", "_law_cell", defArgs s_l_cell, defBody s_l_cell, defScope s_l_cell, [], []⟩
def d_l_numbers : He.DefD := ⟨("_law_numbers", none), "_law_numbers", "_law_numbers", defArgs s_l_numbers, defBody s_l_numbers, defScope s_l_numbers, [], []⟩
def d_l_state : He.DefD := ⟨("_law_state", none), "_law_state", "_law_state", defArgs s_l_state, defBody s_l_state, defScope s_l_state, [], []⟩
def d_l_next : He.DefD := ⟨("_law_next", none), "_law_next", "_law_next", defArgs s_l_next, defBody s_l_next, defScope s_l_next, [], []⟩
def d_l_letters : He.DefD := ⟨("_law_letters", none), "_law_letters", "_law_letters", defArgs s_l_letters, defBody s_l_letters, defScope s_l_letters, [], []⟩
def d_l_texts : He.DefD := ⟨("_law_texts", none), "_law_texts", "_law_texts", defArgs s_l_texts, defBody s_l_texts, defScope s_l_texts, [], []⟩
def d_l_word : He.DefD := ⟨("_law_word", none), "_law_word", "_law_word", defArgs s_l_word, defBody s_l_word, defScope s_l_word, [], []⟩
def d_l_maker : He.DefD := ⟨("_law_maker", none), "_law_maker", "_law_maker", defArgs s_l_maker, defBody s_l_maker, defScope s_l_maker, [], []⟩
def d_l_rewrite : He.DefD := ⟨("_law_rewrite", none), "_law_rewrite", "_law_rewrite", defArgs s_l_rewrite, defBody s_l_rewrite, defScope s_l_rewrite, [], []⟩
def d_l_variant : He.DefD := ⟨("_law_variant", none), "_law_variant", "_law_variant", defArgs s_l_variant, defBody s_l_variant, defScope s_l_variant, [], []⟩
def d_l_bend : He.DefD := ⟨("_law_bend", none), "_law_bend", "_law_bend", defArgs s_l_bend, defBody s_l_bend, defScope s_l_bend, [], []⟩
def d_l_do_the_same : He.DefD := ⟨("_law_do_the_same", none), "_law_do_the_same", "_law_do_the_same", defArgs s_l_do_the_same, defBody s_l_do_the_same, defScope s_l_do_the_same, [], []⟩
def d_l_row : He.DefD := ⟨("_law_row", none), "_law_row", "_law_row", defArgs s_l_row, defBody s_l_row, defScope s_l_row, [], []⟩
def d_l_spoilt : He.DefD := ⟨("_law_spoilt", none), "_law_spoilt", "_law_spoilt", defArgs s_l_spoilt, defBody s_l_spoilt, defScope s_l_spoilt, [], []⟩
def d_l_all_rows : He.DefD := ⟨("_law_all_rows", none), "_law_all_rows", "_law_all_rows", defArgs s_l_all_rows, defBody s_l_all_rows, defScope s_l_all_rows, [], []⟩
def d_l_owed : He.DefD := ⟨("_law_owed", none), "_law_owed", "_law_owed", defArgs s_l_owed, defBody s_l_owed, defScope s_l_owed, [], []⟩
def d_l_are_gone : He.DefD := ⟨("_law_are_gone", none), "_law_are_gone", "_law_are_gone", defArgs s_l_are_gone, defBody s_l_are_gone, defScope s_l_are_gone, [], []⟩
def d_l_is_row : He.DefD := ⟨("_law_is_row", none), "_law_is_row", "_law_is_row", defArgs s_l_is_row, defBody s_l_is_row, defScope s_l_is_row, [], []⟩
def d_l_taken : He.DefD := ⟨("_law_taken", none), "_law_taken", "_law_taken", defArgs s_l_taken, defBody s_l_taken, defScope s_l_taken, [], []⟩
def d_law : He.DefD := ⟨("law", none), "law", "law", defArgs s_law, defBody s_law, defScope s_law, [], []⟩
def dFn : List He.DefD := [d_Rw_init, d_Rw_is_whole, d_Rw_way, d_live_states, d_live_way, d_common, d_owed, d_Cm_init, d_Cm_gone, d_Cm_spot, d_Cm_start, d_Cm_step, d_Cm_differs, d_same, d_are_gone, d_row_holds, d_judge_same, d_l_cell, d_l_numbers, d_l_state, d_l_next, d_l_letters, d_l_texts, d_l_word, d_l_maker, d_l_rewrite, d_l_variant, d_l_bend, d_l_do_the_same, d_l_row, d_l_spoilt, d_l_all_rows, d_l_owed, d_l_are_gone, d_l_is_row, d_l_taken, d_law]
def dFa : List He.Fa := [.glo "live_states", .glo "live_way", .glo "common", .glo "owed", .glo "same", .glo "are_gone", .glo "row_holds", .glo "judge_same", .glo "_law_cell", .glo "_law_numbers", .glo "_law_state", .glo "_law_next", .glo "_law_letters", .glo "_law_texts", .glo "_law_word", .glo "_law_maker", .glo "_law_rewrite", .glo "_law_variant", .glo "_law_bend", .glo "_law_do_the_same", .glo "_law_row", .glo "_law_spoilt", .glo "_law_all_rows", .glo "_law_owed", .glo "_law_are_gone", .glo "_law_is_row", .glo "_law_taken", .glo "law", .glo "Rewriter", .cls "Rewriter", .mkr "Rewriter", .glo "Comparison", .cls "Comparison", .mkr "Comparison", .meth "Rewriter" "_is_whole", .meth "Rewriter" "way", .meth "Comparison" "gone", .meth "Comparison" "_spot", .meth "Comparison" "start", .meth "Comparison" "step", .meth "Comparison" "differs", .noat "Rewriter" "letters", .noat "Rewriter" "lead", .noat "Rewriter" "finals", .noat "Rewriter" "table", .noat "Comparison" "_first", .noat "Comparison" "_second", .noat "Comparison" "_live", .free "len", .free "range", .free "min", .free "abs", .free "int", .free "list", .free "tuple", .free "any", .free "all", .free "sorted", .free "enumerate", .free "isinstance", .free "bool"]
theorem fun_ofD {K : PySem.W.Frag} {x qual : Str} {st : Stmt} {f : Addr} {fd : FuncData} (F : FunD K x qual (defArgs st) (defBody st) (defScope st) [] [] f fd) : Fun K x qual st f fd := by
  obtain ⟨oc, od, dV, kV, doc, pm, an, cdv, ct, osl, rfl, lk, hc, hd, hk⟩ := F.ex
  rcases hd with ⟨_, rfl⟩ | ⟨h, _⟩
  · exact ⟨⟨oc, od, kV, doc, pm, an, cdv, ct, osl, rfl, lk, hc⟩, F.kp⟩
  · exact absurd rfl h
theorem all_mk {P : Program} {w : World} {K : PySem.W.Frag} {h : Heap} {mg : Str → Option Value} {fa : Addr} (X : K.In h) (G : h.Ns mainGlobals mg) (hfa : mg ("law" : Str) = some (.ref fa)) (c : He.SaysD dFa dFn K) :
    ∃ fd : FuncData, (∀ (s : Shared) (v : Value), BindsTo s fd ⟨[v], []⟩ [("_law_script", v)]) ∧ ∀ base : Heap, K.In base → base.Ns mainGlobals mg → FnOk P w K mg base CX0 6 fa fd ["_law_script"] (sp_law K (He.ga K "Rewriter") (He.ga K "Comparison")) := by
  have T : Txt K (He.ga K "Rewriter") (He.ga K "Comparison") := ⟨He.cls_ok (c.fact 29 (f := .cls "Rewriter") rfl), He.cls_ok (c.fact 32 (f := .cls "Comparison") rfl), He.noat_ok (c.fact 41 (f := .noat "Rewriter" "letters") rfl), He.noat_ok (c.fact 42 (f := .noat "Rewriter" "lead") rfl), He.noat_ok (c.fact 43 (f := .noat "Rewriter" "finals") rfl), He.noat_ok (c.fact 44 (f := .noat "Rewriter" "table") rfl), He.noat_ok (c.fact 45 (f := .noat "Comparison" "_first") rfl), He.noat_ok (c.fact 46 (f := .noat "Comparison" "_second") rfl), He.noat_ok (c.fact 47 (f := .noat "Comparison" "_live") rfl)⟩
  have Bm : Bl mg := ⟨He.free_ok X G (c.fact 48 (f := .free "len") rfl), He.free_ok X G (c.fact 49 (f := .free "range") rfl), He.free_ok X G (c.fact 50 (f := .free "min") rfl), He.free_ok X G (c.fact 51 (f := .free "abs") rfl), He.free_ok X G (c.fact 52 (f := .free "int") rfl), He.free_ok X G (c.fact 53 (f := .free "list") rfl), He.free_ok X G (c.fact 54 (f := .free "tuple") rfl), He.free_ok X G (c.fact 55 (f := .free "any") rfl), He.free_ok X G (c.fact 56 (f := .free "all") rfl), He.free_ok X G (c.fact 57 (f := .free "sorted") rfl), He.free_ok X G (c.fact 58 (f := .free "enumerate") rfl), He.free_ok X G (c.fact 59 (f := .free "isinstance") rfl), He.free_ok X G (c.fact 60 (f := .free "bool") rfl)⟩
  obtain ⟨fd_Rw_init, G_Rw_init⟩ := c.def_ 0 (d := d_Rw_init) rfl
  have H_Rw_init := fun_ofD (st := s_Rw_init) G_Rw_init
  have F_Rw_init : DefC K mg (He.ga K "Rewriter") "Rewriter" "Rewriter.__init__" s_Rw_init ["self", "letters", "lead", "finals", "table"] := ⟨_, _, H_Rw_init, He.mkr_ok (c.fact 30 (f := .mkr "Rewriter") rfl), He.glo_ok X G (c.fact 28 (f := .glo "Rewriter") rfl), H_Rw_init.binds (ps := ["self", "letters", "lead", "finals", "table"]) fun _ _ _ _ _ _ us hl => match us, hl with | [_, _, _, _, _], _ => rfl⟩
  obtain ⟨fd_Rw_is_whole, G_Rw_is_whole⟩ := c.def_ 1 (d := d_Rw_is_whole) rfl
  have H_Rw_is_whole := fun_ofD (st := s_Rw_is_whole) G_Rw_is_whole
  have F_Rw_is_whole : DefM K (He.ga K "Rewriter") "_is_whole" "Rewriter._is_whole" s_Rw_is_whole ["self"] := ⟨_, _, H_Rw_is_whole, T.cr, He.meth_ok (c.fact 34 (f := .meth "Rewriter" "_is_whole") rfl), H_Rw_is_whole.binds (ps := ["self"]) fun _ _ _ _ _ _ us hl => match us, hl with | [_], _ => rfl⟩
  obtain ⟨fd_Rw_way, G_Rw_way⟩ := c.def_ 2 (d := d_Rw_way) rfl
  have H_Rw_way := fun_ofD (st := s_Rw_way) G_Rw_way
  have F_Rw_way : DefM K (He.ga K "Rewriter") "way" "Rewriter.way" s_Rw_way ["self", "state", "letter"] := ⟨_, _, H_Rw_way, T.cr, He.meth_ok (c.fact 35 (f := .meth "Rewriter" "way") rfl), H_Rw_way.binds (ps := ["self", "state", "letter"]) fun _ _ _ _ _ _ us hl => match us, hl with | [_, _, _], _ => rfl⟩
  obtain ⟨fd_live_states, G_live_states⟩ := c.def_ 3 (d := d_live_states) rfl
  have H_live_states := fun_ofD (st := s_live_states) G_live_states
  have F_live_states : DefF K mg "live_states" s_live_states ["rewriter"] := ⟨_, _, H_live_states, He.glo_ok X G (c.fact 0 (f := .glo "live_states") rfl), H_live_states.binds (ps := ["rewriter"]) fun _ _ _ _ _ _ us hl => match us, hl with | [_], _ => rfl⟩
  obtain ⟨fd_live_way, G_live_way⟩ := c.def_ 4 (d := d_live_way) rfl
  have H_live_way := fun_ofD (st := s_live_way) G_live_way
  have F_live_way : DefF K mg "live_way" s_live_way ["rewriter", "live", "state", "letter"] := ⟨_, _, H_live_way, He.glo_ok X G (c.fact 1 (f := .glo "live_way") rfl), H_live_way.binds (ps := ["rewriter", "live", "state", "letter"]) fun _ _ _ _ _ _ us hl => match us, hl with | [_, _, _, _], _ => rfl⟩
  obtain ⟨fd_common, G_common⟩ := c.def_ 5 (d := d_common) rfl
  have H_common := fun_ofD (st := s_common) G_common
  have F_common : DefF K mg "common" s_common ["first", "second"] := ⟨_, _, H_common, He.glo_ok X G (c.fact 2 (f := .glo "common") rfl), H_common.binds (ps := ["first", "second"]) fun _ _ _ _ _ _ us hl => match us, hl with | [_, _], _ => rfl⟩
  obtain ⟨fd_owed, G_owed⟩ := c.def_ 6 (d := d_owed) rfl
  have H_owed := fun_ofD (st := s_owed) G_owed
  have F_owed : DefF K mg "owed" s_owed ["first", "second"] := ⟨_, _, H_owed, He.glo_ok X G (c.fact 3 (f := .glo "owed") rfl), H_owed.binds (ps := ["first", "second"]) fun _ _ _ _ _ _ us hl => match us, hl with | [_, _], _ => rfl⟩
  obtain ⟨fd_Cm_init, G_Cm_init⟩ := c.def_ 7 (d := d_Cm_init) rfl
  have H_Cm_init := fun_ofD (st := s_Cm_init) G_Cm_init
  have F_Cm_init : DefC K mg (He.ga K "Comparison") "Comparison" "Comparison.__init__" s_Cm_init ["self", "first", "second"] := ⟨_, _, H_Cm_init, He.mkr_ok (c.fact 33 (f := .mkr "Comparison") rfl), He.glo_ok X G (c.fact 31 (f := .glo "Comparison") rfl), H_Cm_init.binds (ps := ["self", "first", "second"]) fun _ _ _ _ _ _ us hl => match us, hl with | [_, _, _], _ => rfl⟩
  obtain ⟨fd_Cm_gone, G_Cm_gone⟩ := c.def_ 8 (d := d_Cm_gone) rfl
  have H_Cm_gone := fun_ofD (st := s_Cm_gone) G_Cm_gone
  have F_Cm_gone : DefM K (He.ga K "Comparison") "gone" "Comparison.gone" s_Cm_gone ["self"] := ⟨_, _, H_Cm_gone, T.cc, He.meth_ok (c.fact 36 (f := .meth "Comparison" "gone") rfl), H_Cm_gone.binds (ps := ["self"]) fun _ _ _ _ _ _ us hl => match us, hl with | [_], _ => rfl⟩
  obtain ⟨fd_Cm_spot, G_Cm_spot⟩ := c.def_ 9 (d := d_Cm_spot) rfl
  have H_Cm_spot := fun_ofD (st := s_Cm_spot) G_Cm_spot
  have F_Cm_spot : DefM K (He.ga K "Comparison") "_spot" "Comparison._spot" s_Cm_spot ["self", "one", "other", "ahead", "behind"] := ⟨_, _, H_Cm_spot, T.cc, He.meth_ok (c.fact 37 (f := .meth "Comparison" "_spot") rfl), H_Cm_spot.binds (ps := ["self", "one", "other", "ahead", "behind"]) fun _ _ _ _ _ _ us hl => match us, hl with | [_, _, _, _, _], _ => rfl⟩
  obtain ⟨fd_Cm_start, G_Cm_start⟩ := c.def_ 10 (d := d_Cm_start) rfl
  have H_Cm_start := fun_ofD (st := s_Cm_start) G_Cm_start
  have F_Cm_start : DefM K (He.ga K "Comparison") "start" "Comparison.start" s_Cm_start ["self"] := ⟨_, _, H_Cm_start, T.cc, He.meth_ok (c.fact 38 (f := .meth "Comparison" "start") rfl), H_Cm_start.binds (ps := ["self"]) fun _ _ _ _ _ _ us hl => match us, hl with | [_], _ => rfl⟩
  obtain ⟨fd_Cm_step, G_Cm_step⟩ := c.def_ 11 (d := d_Cm_step) rfl
  have H_Cm_step := fun_ofD (st := s_Cm_step) G_Cm_step
  have F_Cm_step : DefM K (He.ga K "Comparison") "step" "Comparison.step" s_Cm_step ["self", "spot", "letter"] := ⟨_, _, H_Cm_step, T.cc, He.meth_ok (c.fact 39 (f := .meth "Comparison" "step") rfl), H_Cm_step.binds (ps := ["self", "spot", "letter"]) fun _ _ _ _ _ _ us hl => match us, hl with | [_, _, _], _ => rfl⟩
  obtain ⟨fd_Cm_differs, G_Cm_differs⟩ := c.def_ 12 (d := d_Cm_differs) rfl
  have H_Cm_differs := fun_ofD (st := s_Cm_differs) G_Cm_differs
  have F_Cm_differs : DefM K (He.ga K "Comparison") "differs" "Comparison.differs" s_Cm_differs ["self", "spot"] := ⟨_, _, H_Cm_differs, T.cc, He.meth_ok (c.fact 40 (f := .meth "Comparison" "differs") rfl), H_Cm_differs.binds (ps := ["self", "spot"]) fun _ _ _ _ _ _ us hl => match us, hl with | [_, _], _ => rfl⟩
  obtain ⟨fd_same, G_same⟩ := c.def_ 13 (d := d_same) rfl
  have H_same := fun_ofD (st := s_same) G_same
  have F_same : DefF K mg "same" s_same ["first", "second"] := ⟨_, _, H_same, He.glo_ok X G (c.fact 4 (f := .glo "same") rfl), H_same.binds (ps := ["first", "second"]) fun _ _ _ _ _ _ us hl => match us, hl with | [_, _], _ => rfl⟩
  obtain ⟨fd_are_gone, G_are_gone⟩ := c.def_ 14 (d := d_are_gone) rfl
  have H_are_gone := fun_ofD (st := s_are_gone) G_are_gone
  have F_are_gone : DefF K mg "are_gone" s_are_gone ["rewriter", "states"] := ⟨_, _, H_are_gone, He.glo_ok X G (c.fact 5 (f := .glo "are_gone") rfl), H_are_gone.binds (ps := ["rewriter", "states"]) fun _ _ _ _ _ _ us hl => match us, hl with | [_, _], _ => rfl⟩
  obtain ⟨fd_row_holds, G_row_holds⟩ := c.def_ 15 (d := d_row_holds) rfl
  have H_row_holds := fun_ofD (st := s_row_holds) G_row_holds
  have F_row_holds : DefF K mg "row_holds" s_row_holds ["first", "second", "paper", "row"] := ⟨_, _, H_row_holds, He.glo_ok X G (c.fact 6 (f := .glo "row_holds") rfl), H_row_holds.binds (ps := ["first", "second", "paper", "row"]) fun _ _ _ _ _ _ us hl => match us, hl with | [_, _, _, _], _ => rfl⟩
  obtain ⟨fd_judge_same, G_judge_same⟩ := c.def_ 16 (d := d_judge_same) rfl
  have H_judge_same := fun_ofD (st := s_judge_same) G_judge_same
  have F_judge_same : DefF K mg "judge_same" s_judge_same ["first", "second", "paper"] := ⟨_, _, H_judge_same, He.glo_ok X G (c.fact 7 (f := .glo "judge_same") rfl), H_judge_same.binds (ps := ["first", "second", "paper"]) fun _ _ _ _ _ _ us hl => match us, hl with | [_, _, _], _ => rfl⟩
  obtain ⟨fd_l_cell, G_l_cell⟩ := c.def_ 17 (d := d_l_cell) rfl
  have H_l_cell := fun_ofD (st := s_l_cell) G_l_cell
  have F_l_cell : DefF K mg "_law_cell" s_l_cell ["_law_script", "_law_k"] := ⟨_, _, H_l_cell, He.glo_ok X G (c.fact 8 (f := .glo "_law_cell") rfl), H_l_cell.binds (ps := ["_law_script", "_law_k"]) fun _ _ _ _ _ _ us hl => match us, hl with | [_, _], _ => rfl⟩
  obtain ⟨fd_l_numbers, G_l_numbers⟩ := c.def_ 18 (d := d_l_numbers) rfl
  have H_l_numbers := fun_ofD (st := s_l_numbers) G_l_numbers
  have F_l_numbers : DefF K mg "_law_numbers" s_l_numbers ["_law_cell_here", "_law_many"] := ⟨_, _, H_l_numbers, He.glo_ok X G (c.fact 9 (f := .glo "_law_numbers") rfl), H_l_numbers.binds (ps := ["_law_cell_here", "_law_many"]) fun _ _ _ _ _ _ us hl => match us, hl with | [_, _], _ => rfl⟩
  obtain ⟨fd_l_state, G_l_state⟩ := c.def_ 19 (d := d_l_state) rfl
  have H_l_state := fun_ofD (st := s_l_state) G_l_state
  have F_l_state : DefF K mg "_law_state" s_l_state ["_law_script", "_law_start", "_law_many"] := ⟨_, _, H_l_state, He.glo_ok X G (c.fact 10 (f := .glo "_law_state") rfl), H_l_state.binds (ps := ["_law_script", "_law_start", "_law_many"]) fun _ _ _ _ _ _ us hl => match us, hl with | [_, _, _], _ => rfl⟩
  obtain ⟨fd_l_next, G_l_next⟩ := c.def_ 20 (d := d_l_next) rfl
  have H_l_next := fun_ofD (st := s_l_next) G_l_next
  have F_l_next : DefF K mg "_law_next" s_l_next ["_law_state_here", "_law_many"] := ⟨_, _, H_l_next, He.glo_ok X G (c.fact 11 (f := .glo "_law_next") rfl), H_l_next.binds (ps := ["_law_state_here", "_law_many"]) fun _ _ _ _ _ _ us hl => match us, hl with | [_, _], _ => rfl⟩
  obtain ⟨fd_l_letters, G_l_letters⟩ := c.def_ 21 (d := d_l_letters) rfl
  have H_l_letters := fun_ofD (st := s_l_letters) G_l_letters
  have F_l_letters : DefF K mg "_law_letters" s_l_letters ["_law_state_here", "_law_most"] := ⟨_, _, H_l_letters, He.glo_ok X G (c.fact 12 (f := .glo "_law_letters") rfl), H_l_letters.binds (ps := ["_law_state_here", "_law_most"]) fun _ _ _ _ _ _ us hl => match us, hl with | [_, _], _ => rfl⟩
  obtain ⟨fd_l_texts, G_l_texts⟩ := c.def_ 22 (d := d_l_texts) rfl
  have H_l_texts := fun_ofD (st := s_l_texts) G_l_texts
  have F_l_texts : DefF K mg "_law_texts" s_l_texts ["_law_letters_here", "_law_most"] := ⟨_, _, H_l_texts, He.glo_ok X G (c.fact 13 (f := .glo "_law_texts") rfl), H_l_texts.binds (ps := ["_law_letters_here", "_law_most"]) fun _ _ _ _ _ _ us hl => match us, hl with | [_, _], _ => rfl⟩
  obtain ⟨fd_l_word, G_l_word⟩ := c.def_ 23 (d := d_l_word) rfl
  have H_l_word := fun_ofD (st := s_l_word) G_l_word
  have F_l_word : DefF K mg "_law_word" s_l_word ["_law_letters_here", "_law_state_here", "_law_most"] := ⟨_, _, H_l_word, He.glo_ok X G (c.fact 14 (f := .glo "_law_word") rfl), H_l_word.binds (ps := ["_law_letters_here", "_law_state_here", "_law_most"]) fun _ _ _ _ _ _ us hl => match us, hl with | [_, _, _], _ => rfl⟩
  obtain ⟨fd_l_maker, G_l_maker⟩ := c.def_ 24 (d := d_l_maker) rfl
  have H_l_maker := fun_ofD (st := s_l_maker) G_l_maker
  have F_l_maker : DefF K mg "_law_maker" s_l_maker ["_law_letters_here", "_law_state_here", "_law_most"] := ⟨_, _, H_l_maker, He.glo_ok X G (c.fact 15 (f := .glo "_law_maker") rfl), H_l_maker.binds (ps := ["_law_letters_here", "_law_state_here", "_law_most"]) fun _ _ _ _ _ _ us hl => match us, hl with | [_, _, _], _ => rfl⟩
  obtain ⟨fd_l_rewrite, G_l_rewrite⟩ := c.def_ 25 (d := d_l_rewrite) rfl
  have H_l_rewrite := fun_ofD (st := s_l_rewrite) G_l_rewrite
  have F_l_rewrite : DefF K mg "_law_rewrite" s_l_rewrite ["_law_letters_here", "_law_parts", "_law_text"] := ⟨_, _, H_l_rewrite, He.glo_ok X G (c.fact 16 (f := .glo "_law_rewrite") rfl), H_l_rewrite.binds (ps := ["_law_letters_here", "_law_parts", "_law_text"]) fun _ _ _ _ _ _ us hl => match us, hl with | [_, _, _], _ => rfl⟩
  obtain ⟨fd_l_variant, G_l_variant⟩ := c.def_ 26 (d := d_l_variant) rfl
  have H_l_variant := fun_ofD (st := s_l_variant) G_l_variant
  have F_l_variant : DefF K mg "_law_variant" s_l_variant ["_law_letters_here", "_law_state_here", "_law_parts"] := ⟨_, _, H_l_variant, He.glo_ok X G (c.fact 17 (f := .glo "_law_variant") rfl), H_l_variant.binds (ps := ["_law_letters_here", "_law_state_here", "_law_parts"]) fun _ _ _ _ _ _ us hl => match us, hl with | [_, _, _], _ => rfl⟩
  obtain ⟨fd_l_bend, G_l_bend⟩ := c.def_ 27 (d := d_l_bend) rfl
  have H_l_bend := fun_ofD (st := s_l_bend) G_l_bend
  have F_l_bend : DefF K mg "_law_bend" s_l_bend ["_law_letters_here", "_law_state_here", "_law_parts"] := ⟨_, _, H_l_bend, He.glo_ok X G (c.fact 18 (f := .glo "_law_bend") rfl), H_l_bend.binds (ps := ["_law_letters_here", "_law_state_here", "_law_parts"]) fun _ _ _ _ _ _ us hl => match us, hl with | [_, _, _], _ => rfl⟩
  obtain ⟨fd_l_do_the_same, G_l_do_the_same⟩ := c.def_ 28 (d := d_l_do_the_same) rfl
  have H_l_do_the_same := fun_ofD (st := s_l_do_the_same) G_l_do_the_same
  have F_l_do_the_same : DefF K mg "_law_do_the_same" s_l_do_the_same ["_law_letters_here", "_law_first", "_law_second"] := ⟨_, _, H_l_do_the_same, He.glo_ok X G (c.fact 19 (f := .glo "_law_do_the_same") rfl), H_l_do_the_same.binds (ps := ["_law_letters_here", "_law_first", "_law_second"]) fun _ _ _ _ _ _ us hl => match us, hl with | [_, _, _], _ => rfl⟩
  obtain ⟨fd_l_row, G_l_row⟩ := c.def_ 29 (d := d_l_row) rfl
  have H_l_row := fun_ofD (st := s_l_row) G_l_row
  have F_l_row : DefF K mg "_law_row" s_l_row ["_law_letters_here", "_law_state_here", "_law_many", "_law_others"] := ⟨_, _, H_l_row, He.glo_ok X G (c.fact 20 (f := .glo "_law_row") rfl), H_l_row.binds (ps := ["_law_letters_here", "_law_state_here", "_law_many", "_law_others"]) fun _ _ _ _ _ _ us hl => match us, hl with | [_, _, _, _], _ => rfl⟩
  obtain ⟨fd_l_spoilt, G_l_spoilt⟩ := c.def_ 30 (d := d_l_spoilt) rfl
  have H_l_spoilt := fun_ofD (st := s_l_spoilt) G_l_spoilt
  have F_l_spoilt : DefF K mg "_law_spoilt" s_l_spoilt ["_law_letters_here", "_law_state_here", "_law_paper", "_law_many", "_law_others"] := ⟨_, _, H_l_spoilt, He.glo_ok X G (c.fact 21 (f := .glo "_law_spoilt") rfl), H_l_spoilt.binds (ps := ["_law_letters_here", "_law_state_here", "_law_paper", "_law_many", "_law_others"]) fun _ _ _ _ _ _ us hl => match us, hl with | [_, _, _, _, _], _ => rfl⟩
  obtain ⟨fd_l_all_rows, G_l_all_rows⟩ := c.def_ 31 (d := d_l_all_rows) rfl
  have H_l_all_rows := fun_ofD (st := s_l_all_rows) G_l_all_rows
  have F_l_all_rows : DefF K mg "_law_all_rows" s_l_all_rows ["_law_letters_here", "_law_many", "_law_others"] := ⟨_, _, H_l_all_rows, He.glo_ok X G (c.fact 22 (f := .glo "_law_all_rows") rfl), H_l_all_rows.binds (ps := ["_law_letters_here", "_law_many", "_law_others"]) fun _ _ _ _ _ _ us hl => match us, hl with | [_, _, _], _ => rfl⟩
  obtain ⟨fd_l_owed, G_l_owed⟩ := c.def_ 32 (d := d_l_owed) rfl
  have H_l_owed := fun_ofD (st := s_l_owed) G_l_owed
  have F_l_owed : DefF K mg "_law_owed" s_l_owed ["_law_one", "_law_other"] := ⟨_, _, H_l_owed, He.glo_ok X G (c.fact 23 (f := .glo "_law_owed") rfl), H_l_owed.binds (ps := ["_law_one", "_law_other"]) fun _ _ _ _ _ _ us hl => match us, hl with | [_, _], _ => rfl⟩
  obtain ⟨fd_l_are_gone, G_l_are_gone⟩ := c.def_ 33 (d := d_l_are_gone) rfl
  have H_l_are_gone := fun_ofD (st := s_l_are_gone) G_l_are_gone
  have F_l_are_gone : DefF K mg "_law_are_gone" s_l_are_gone ["_law_parts", "_law_states"] := ⟨_, _, H_l_are_gone, He.glo_ok X G (c.fact 24 (f := .glo "_law_are_gone") rfl), H_l_are_gone.binds (ps := ["_law_parts", "_law_states"]) fun _ _ _ _ _ _ us hl => match us, hl with | [_, _], _ => rfl⟩
  obtain ⟨fd_l_is_row, G_l_is_row⟩ := c.def_ 34 (d := d_l_is_row) rfl
  have H_l_is_row := fun_ofD (st := s_l_is_row) G_l_is_row
  have F_l_is_row : DefF K mg "_law_is_row" s_l_is_row ["_law_first", "_law_second", "_law_paper", "_law_row_here"] := ⟨_, _, H_l_is_row, He.glo_ok X G (c.fact 25 (f := .glo "_law_is_row") rfl), H_l_is_row.binds (ps := ["_law_first", "_law_second", "_law_paper", "_law_row_here"]) fun _ _ _ _ _ _ us hl => match us, hl with | [_, _, _, _], _ => rfl⟩
  obtain ⟨fd_l_taken, G_l_taken⟩ := c.def_ 35 (d := d_l_taken) rfl
  have H_l_taken := fun_ofD (st := s_l_taken) G_l_taken
  have F_l_taken : DefF K mg "_law_taken" s_l_taken ["_law_first", "_law_second", "_law_paper"] := ⟨_, _, H_l_taken, He.glo_ok X G (c.fact 26 (f := .glo "_law_taken") rfl), H_l_taken.binds (ps := ["_law_first", "_law_second", "_law_paper"]) fun _ _ _ _ _ _ us hl => match us, hl with | [_, _, _], _ => rfl⟩
  obtain ⟨fd_law, G_law⟩ := c.def_ 36 (d := d_law) rfl
  have H_law := fun_ofD (st := s_law) G_law
  have e := hfa.symm.trans (He.glo_ok X G (c.fact 27 (f := .glo "law") rfl))
  cases e
  refine ⟨fd_law, ?_, fun base _ _ => ?_⟩
  · have b := FunD.bindsA (ps := ["_law_script"]) G_law fun _ _ _ _ _ _ us hl => match us, hl with | [_], _ => rfl
    exact fun s v => b s [v] rfl
  · have P_l_cell := ok_l_cell (P := P) (w := w) (base := base) (CR := He.ga K "Rewriter") (CC := He.ga K "Comparison") Bm T  F_l_cell
    have P_l_numbers := ok_l_numbers (P := P) (w := w) (base := base) (CR := He.ga K "Rewriter") (CC := He.ga K "Comparison") Bm T  F_l_numbers
    have P_l_state := ok_l_state (P := P) (w := w) (base := base) (CR := He.ga K "Rewriter") (CC := He.ga K "Comparison") Bm T P_l_cell P_l_numbers F_l_state
    have P_l_next := ok_l_next (P := P) (w := w) (base := base) (CR := He.ga K "Rewriter") (CC := He.ga K "Comparison") Bm T  F_l_next
    have P_l_letters := ok_l_letters (P := P) (w := w) (base := base) (CR := He.ga K "Rewriter") (CC := He.ga K "Comparison") Bm T P_l_next F_l_letters
    have P_l_word := ok_l_word (P := P) (w := w) (base := base) (CR := He.ga K "Rewriter") (CC := He.ga K "Comparison") Bm T P_l_next F_l_word
    have P_l_maker := ok_l_maker (P := P) (w := w) (base := base) (CR := He.ga K "Rewriter") (CC := He.ga K "Comparison") Bm T P_l_next P_l_word F_l_maker
    have P_l_variant := ok_l_variant (P := P) (w := w) (base := base) (CR := He.ga K "Rewriter") (CC := He.ga K "Comparison") Bm T P_l_next F_l_variant
    have P_Rw_is_whole := ok_Rw_is_whole (P := P) (w := w) (base := base) (CR := He.ga K "Rewriter") (CC := He.ga K "Comparison") Bm T  F_Rw_is_whole
    have P_Rw_init := ok_Rw_init (P := P) (w := w) (base := base) (CR := He.ga K "Rewriter") (CC := He.ga K "Comparison") Bm T P_Rw_is_whole F_Rw_init
    have P_live_states := ok_live_states (P := P) (w := w) (base := base) (CR := He.ga K "Rewriter") (CC := He.ga K "Comparison") Bm T  F_live_states
    have P_Cm_init := ok_Cm_init (P := P) (w := w) (base := base) (CR := He.ga K "Rewriter") (CC := He.ga K "Comparison") Bm T P_live_states F_Cm_init
    have P_common := ok_common (P := P) (w := w) (base := base) (CR := He.ga K "Rewriter") (CC := He.ga K "Comparison") Bm T  F_common
    have P_owed := ok_owed (P := P) (w := w) (base := base) (CR := He.ga K "Rewriter") (CC := He.ga K "Comparison") Bm T P_common F_owed
    have P_Cm_spot := ok_Cm_spot (P := P) (w := w) (base := base) (CR := He.ga K "Rewriter") (CC := He.ga K "Comparison") Bm T P_owed F_Cm_spot
    have P_Cm_start := ok_Cm_start (P := P) (w := w) (base := base) (CR := He.ga K "Rewriter") (CC := He.ga K "Comparison") Bm T P_Cm_spot F_Cm_start
    have P_Cm_differs := ok_Cm_differs (P := P) (w := w) (base := base) (CR := He.ga K "Rewriter") (CC := He.ga K "Comparison") Bm T  F_Cm_differs
    have P_Rw_way := ok_Rw_way (P := P) (w := w) (base := base) (CR := He.ga K "Rewriter") (CC := He.ga K "Comparison") Bm T  F_Rw_way
    have P_live_way := ok_live_way (P := P) (w := w) (base := base) (CR := He.ga K "Rewriter") (CC := He.ga K "Comparison") Bm T P_Rw_way F_live_way
    have P_Cm_step := ok_Cm_step (P := P) (w := w) (base := base) (CR := He.ga K "Rewriter") (CC := He.ga K "Comparison") Bm T P_Cm_spot P_live_way F_Cm_step
    have P_Cm_gone := ok_Cm_gone (P := P) (w := w) (base := base) (CR := He.ga K "Rewriter") (CC := He.ga K "Comparison") Bm T  F_Cm_gone
    have P_same := ok_same (P := P) (w := w) (base := base) (CR := He.ga K "Rewriter") (CC := He.ga K "Comparison") Bm T P_Cm_init P_Cm_start P_Cm_differs P_Cm_step P_Cm_gone F_same
    have P_l_bend := ok_l_bend (P := P) (w := w) (base := base) (CR := He.ga K "Rewriter") (CC := He.ga K "Comparison") Bm T P_l_next F_l_bend
    have P_l_texts := ok_l_texts (P := P) (w := w) (base := base) (CR := He.ga K "Rewriter") (CC := He.ga K "Comparison") Bm T  F_l_texts
    have P_l_rewrite := ok_l_rewrite (P := P) (w := w) (base := base) (CR := He.ga K "Rewriter") (CC := He.ga K "Comparison") Bm T  F_l_rewrite
    have P_l_do_the_same := ok_l_do_the_same (P := P) (w := w) (base := base) (CR := He.ga K "Rewriter") (CC := He.ga K "Comparison") Bm T P_l_texts P_l_rewrite F_l_do_the_same
    have P_are_gone := ok_are_gone (P := P) (w := w) (base := base) (CR := He.ga K "Rewriter") (CC := He.ga K "Comparison") Bm T  F_are_gone
    have P_row_holds := ok_row_holds (P := P) (w := w) (base := base) (CR := He.ga K "Rewriter") (CC := He.ga K "Comparison") Bm T P_Rw_way P_owed F_row_holds
    have P_judge_same := ok_judge_same (P := P) (w := w) (base := base) (CR := He.ga K "Rewriter") (CC := He.ga K "Comparison") Bm T P_are_gone P_owed P_row_holds F_judge_same
    have P_l_all_rows := ok_l_all_rows (P := P) (w := w) (base := base) (CR := He.ga K "Rewriter") (CC := He.ga K "Comparison") Bm T  F_l_all_rows
    have P_l_row := ok_l_row (P := P) (w := w) (base := base) (CR := He.ga K "Rewriter") (CC := He.ga K "Comparison") Bm T P_l_word P_l_next F_l_row
    have P_l_spoilt := ok_l_spoilt (P := P) (w := w) (base := base) (CR := He.ga K "Rewriter") (CC := He.ga K "Comparison") Bm T P_l_next P_l_row F_l_spoilt
    have P_l_are_gone := ok_l_are_gone (P := P) (w := w) (base := base) (CR := He.ga K "Rewriter") (CC := He.ga K "Comparison") Bm T  F_l_are_gone
    have P_l_owed := ok_l_owed (P := P) (w := w) (base := base) (CR := He.ga K "Rewriter") (CC := He.ga K "Comparison") Bm T  F_l_owed
    have P_l_is_row := ok_l_is_row (P := P) (w := w) (base := base) (CR := He.ga K "Rewriter") (CC := He.ga K "Comparison") Bm T P_l_owed F_l_is_row
    have P_l_taken := ok_l_taken (P := P) (w := w) (base := base) (CR := He.ga K "Rewriter") (CC := He.ga K "Comparison") Bm T P_l_are_gone P_l_owed P_l_is_row F_l_taken
    exact ok_law Bm T P_l_state P_l_letters P_l_maker P_l_variant P_Rw_init P_same P_l_bend P_l_do_the_same P_judge_same P_l_all_rows P_l_spoilt P_l_taken P_l_next H_law
theorem walk {l : PySem.W.OpenLaw} {q : Program} {loose : List Str} {XP : (Str → Option Value) → Heap → Prop} {YP : World → Heap → Prop} {d : DefRec} {K : Params → PySem.W.Frag} (hn : l.most = some 63) (hdf : d.params.defaults = [])
    (hY : ∀ (w : World) (h : Heap), YP w h → (K w.params).In h)
    (F : ∀ (w : World) (mg : Str → Option Value) (fa : Addr) (h : Heap), (K w.params).In h → h.Ns mainGlobals mg → mg d.name = some (.ref fa) →
      ∃ fd : FuncData, (∀ (s : Shared) (u : Value), BindsTo s fd ⟨[u], []⟩ [("_law_script", u)]) ∧ ∀ base : Heap, (K w.params).In base → base.Ns mainGlobals mg → FnOk l.prog w (K w.params) mg base CX0 6 fa fd ["_law_script"] (sp_law (K w.params) (He.ga (K w.params) "Rewriter") (He.ga (K w.params) "Comparison"))) :
    PySem.W.WalkO q loose XP YP l.row.toRowW d [] (fun f vs => PySem.call f vs) :=
  L2.walk_of (n := 63) (k := 6) (x := "_law_script") (CX := fun _ => CX0) (sp := fun w => sp_law (K w.params) (He.ga (K w.params) "Rewriter") (He.ga (K w.params) "Comparison")) hn (by decide) hdf ⟨rfl, by decide, by decide⟩ hY F (fun w H a ns hl _ hS => ⟨H, .ref a, ns, rfl, .refl _, .lst hS (da_map (fun i => .int i) ns), fun v A' B' _ p => dp_bl p⟩) fun _ _ _ _ _ z => z
end A26
open PySem PySem.W PyProof.Rows
set_option maxRecDepth 100000 in
set_option maxHeartbeats 0 in
theorem PySem.Challenge.cw_anytext_k26_whole_no_wrong_paper_holds : PySem.Challenge.rw_anytext_k26_whole_no_wrong_paper.Holds := by
  w_on; o_law; k_head; (case hw => w_witness2)
  k_fill
  refine A26.walk (l := PySem.Challenge.rw_anytext_k26_whole_no_wrong_paper) rfl rfl (fun w h Y => PySem.W.kIn_of Y) ?F
  case F =>
    intro w mg fa h KX G hmg
    refine A26.all_mk KX G hmg ?c
    show He.obsD A26.dFa A26.dFn _ = He.valD A26.dFn
    kernel_rfl
