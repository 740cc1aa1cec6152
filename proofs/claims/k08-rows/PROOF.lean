import PyProof.Rows.All
import Wide.All
import OpenK.AllK
import Wide.FinOn
import KE.GoesEnum
import HandS.ForMost
import HandS.Exc
import HandS.ExcOwn
import HandS.ExcInit
import HandS.ExcIs
import HandS.ExcField
import HandS.TryOnly
import HandS.WordsExc
import HandS.Wide
import HandS.Defaults
import HandS.ClsMeth
import HandS.IsInst
import HandS.Conv
import HandS.Style
import HandS.Walk
import HandS.Codes
import HandS.OwnEq
import HandS.HeadHook4
import HandS.Head0
import HandS.Head1
import HandS.Head2
import HandS.HeadEnd
import KE.KCallOwn
import PySem.Challenge.RW_whomay_k08_rows_of_patterns
set_option Elab.async false
set_option linter.all false
set_option maxRecDepth 100000
set_option maxHeartbeats 4000000
/-! own rules over the layer -/
namespace RX
open PySem PySem.Spec PyProof.Rows L2

/-! lists joined, read in any place -/
section
variable {X : Cx}
def rCatS (K : PySem.W.Frag) : R2 := fun x y H Q => ∃ l b xs zs, x = .ref l ∧ y = .ref b ∧ SqL K H l xs ∧ SqL K H b zs ∧ xs.length + zs.length ≤ sizeLine ∧ ∀ p, H p = none → Q (.ref p) (upd H p (.lst (xs ++ zs)))
theorem op_catS : OpR X (binaryOp .Add) (rCatS X.K) := by
  intro pins s σ H x y v u Q I rx ry h
  obtain ⟨l, b, xs, zs, rfl, rfl, hH, hB, hz, q⟩ := h
  cases rx
  cases ry
  obtain ⟨its, r, ⟨⟨cls, dd, data, sl⟩, n, ho, hc, _, hd⟩, _⟩ := I.list hH
  obtain ⟨its2, r2, ⟨⟨cls2, dd2, data2, sl2⟩, n2, ho2, hc2, _, hd2⟩, _⟩ := I.list hB
  simp only at hc hd hc2 hd2
  subst hc hd hc2 hd2
  have l1 := r.length
  have l2 := r2.length
  have ea : its.toArray ++ its2.toArray = (its ++ its2).toArray := by simp
  refine concat_meets ⟨_, ho, rfl⟩ ⟨_, ho2, rfl⟩ noFill_list_add seq_list_add PySem.F.slot_list_add PySem.F.entry_list_add (PySem.F.args_list_add_2 _ _) (list_addW l b its.toArray its2.toArray n n2 dd dd2 sl sl2 (by rw [List.size_toArray, List.size_toArray]; omega)) ⟨ho, ho2, ?_⟩
  rw [ea]
  exact ⟨.ref _, _, I.lnew (t' := s.toks) (r.append r2) (by rw [List.length_append]; omega), rfl, q _ I.fresh⟩

/-! C.m(e, ..), C a class of the text, m a plain def of it: called with just these values -/
def tUMeth (C : Addr) (sp : Sp) (E : XK) (ta : TE) (t : TA) : TE := fun σ H Q => ta σ H fun x H1 => x = .ref C ∧ t σ H1 fun vs H2 => sp vs H2 Q E
theorem pe_umeth {CX : CXT} {k : Nat} {C f : Addr} {mc : Value} {fd : FuncData} {ps : List Str} {sp : Sp} {E : XK} {o e : Expr} {es : List Expr} {m : Str} {pos apos : Pos} {ta : TE} {t : TA} {pl : Sem Bool}
    (he : PE X o ta) (r : ClX.CRead X.K C mc) (c : PySem.W.findCls X.K (.ref C) mc m = some (.val (.ref f))) (hk : PySem.W.keepIn X.K (.ref f) = true)
    (F : FnOk X.prog X.w X.K X.mg X.base CX k f fd ps sp) (hr : Room k X.A) (hb : Binds X.K fd ps []) (hx : Passes CX X E) (ha : PA X (e :: es) t)
    (hst : starEach (e :: es) X.env = (false, eval e X.env) :: starEach es X.env := by rfl) (hpl : (backTo pos (starEach es X.env)).any (·.1) = false := by rfl)
    (ht : eval (.Call (.Attribute o m apos) (e :: es) [] pos) X.env = (do
      let ov ← eval o X.env
      standAt apos.atName
      let (f, first) ← holding [ov] (getMethod ov m pl)
      callWith pos f first (backTo pos (starEach (e :: es) X.env)) (backToKw pos (keywordEach [] X.env))) := by rfl) :
    PE X (.Call (.Attribute o m apos) (e :: es) [] pos) (tUMeth C sp E ta t) := by
  refine ⟨fun pins s σ H Q I h => ?_⟩
  refine PySem.W.methodCall_KW (pl := pl) (thn (he.run pins s σ H _ I h) fun u s1 ⟨x, H1, I1, rx, ex, q⟩ => ?_) ht
  subst ex
  obtain rfl : u = Value.ref C := rx
  refine PySem.W.method_cls I1.kIn r.ga (ClX.getcval_ok (v := .ref f) I1 r ⟨c, rfl⟩ fun s2 I2 => ?_)
  refine PySem.W.callWith_K (first := []) (h₀ := X.base) I.ok.mod.kin hk (thn (ha.run pos pins s2 σ H1 _ I2 q) fun us s3 ⟨vs, H2, I3, rv, q2⟩ => ⟨I3.kIn, ?_⟩) hst hpl
  exact run_fn (us := us) (vs := vs) (dvs := []) F hr hb .nil hx I3 rv (by rw [List.append_nil]; exact q2)

/-! enumerate over a tuple -/
def Itet (K : PySem.W.Frag) (a : Addr) : It :=
  ⟨fun i H => ∃ (xs : List V) (x : V), SqT K H a xs ∧ xs[i]? = some x, fun i H v H' => ∃ T x, v = .ref T ∧ H T = none ∧ H' = upd H T (.tup [.int (i : Nat), x]) ∧ ∀ xs, SqT K H a xs → xs[i]? = some x, fun i H => ∃ xs : List V, SqT K H a xs ∧ xs.length ≤ i⟩
theorem turn_enumT {P : Program} {w : World} {K : PySem.W.Frag} {elts : List Expr} {kk : Nat} {tpos : Pos} (a e it : Addr) :
    Turn P w K (.Tuple elts kk tpos) (Itet K a) [e, it] e (fun i h => (∃ old, IsEnum h e it ((i : Nat) : Int) old) ∧ h.IsTupleIter it a i ∧ e ≠ it) where
  mem := by simp
  obj := fun i h st b hb => by
    obtain ⟨⟨old, he⟩, ⟨o, ho, hc, hd⟩, _⟩ := st
    have e' : b = e ∨ b = it := by simpa using hb
    rcases e' with z | z
    · rw [z]; exact ⟨_, he, fun v q => nomatch q⟩
    · rw [z]; exact ⟨o, ho, fun v q => by rw [hd] at q; cases q⟩
  keep := fun i h h' st k => let ⟨⟨old, he⟩, hi, hne⟩ := st; ⟨⟨old, k e (by simp) _ he⟩, hi.at fun o q => k it (by simp) o q, hne⟩
  item := by
    intro X hP hw hK hc i pins s σ H E I hf st hg
    subst hP hw hK
    obtain ⟨⟨old, he⟩, hit, hne⟩ := st
    obtain ⟨xs, x, hq, hx⟩ := hg
    obtain ⟨its, rv, p, hz⟩ := I.tuple hq
    obtain ⟨u, hu, ru⟩ := rv.get hx
    have p' : s.heap.IsTuple a its.toArray := p
    have hel : e < s.heap.objs.size := Heap.lt_size he
    have hil : it < s.heap.objs.size := by obtain ⟨_, q, _⟩ := hit; exact Heap.lt_size q
    have hlen := rv.length
    have hai : a ≠ it := fun z => by
      obtain ⟨o1, e1, c1, _⟩ := p'
      obtain ⟨o2, e2, c2, _⟩ := hit
      rw [z, e2] at e1
      cases e1
      rw [c1] at c2
      exact absurd c2 (by decide)
    have hae : e ≠ a := fun z => by
      obtain ⟨o1, e1, c1, _⟩ := p'
      have e2 : s.heap.get? e = some _ := he
      rw [z, e1] at e2
      cases e2
      exact absurd c1 (show ¬ (Value.type "enumerate" = Value.type "tuple") by decide)
    have hlt : i < its.length := by
      rw [← hlen]
      exact (List.getElem?_eq_some_iff.mp hx).1
    have hh : X.A.in1.handled = none := I.ok.hd hc
    refine wpAny_pyNext_enum_itemD (Draws.tuple hh it a hai its.toArray) he ⟨hit, p'⟩ (by simpa using hlt) hne (by simp [hne, hae]) fun y h' tk hy ho ⟨hit', _⟩ hT hsz hk => ?_
    have ey : y = u := by
      have q : its[i]? = some y := by simpa using hy
      rw [hu] at q
      exact (Option.some.inj q).symm
    subst ey
    refine ⟨_, rfl, wpAny_letOwnedTupleGo_enum (s := { s with heap := h', toks := tk + 1 }) ho fun h'' he' sb => ?_⟩
    have hT2 : h''.get? s.heap.objs.size = some { cls := .type "tuple", data := .seq #[.int i tk, y] } := (sb.2 _ (Nat.ne_of_gt hel)).trans hT
    have new : ObjOk X.prog X.w (upd H s.heap.objs.size (.tup [.int (i : Nat), x])) h'' s.heap.objs.size (.tup [.int (i : Nat), x]) :=
      ⟨by show 2 ≤ sizeLine; decide, [.int i tk, y], .cons ⟨_, rfl⟩ (.cons ru .nil), ⟨_, hT2, rfl, _, rfl⟩⟩
    have I1 : Inv X pins σ (upd H s.heap.objs.size (.tup [.int (i : Nat), x])) { s with heap := h'', toks := tk + 1 } :=
      I.turnedNew (ch := [e, it]) (fun b ob hb q => (sb.2 b (fun z => hb (by simp [z]))).trans (hk b ob (fun z => hb (by simp [z])) (fun z => hb (by simp [z])) q)) hf (Nat.le_refl _) new
    refine ⟨.ref s.heap.objs.size, _, I1, rfl, ⟨_, x, rfl, I.hok.fresh (Nat.le_refl _), rfl, fun ys hy => by rw [I.tuple_inj hy hq]; exact hx⟩, ⟨⟨y, ?_⟩, hit'.at fun o q => (sb.2 it (Ne.symm hne)).trans q, hne⟩, fun b hb => ?_⟩
    · have e1 : ((i + 1 : Nat) : Int) = (i : Int) + 1 := by omega
      rw [e1]; exact he'
    · have hb' : b < s.heap.objs.size := by
        have e' : b = e ∨ b = it := by simpa using hb
        rcases e' with z | z
        · rw [z]; exact hel
        · rw [z]; exact hil
      rw [upd_ne (Nat.ne_of_lt hb')]
      exact (hf b hb).1
  done := by
    intro X hP hw hK hc i pins s σ H E I hf st hg
    subst hP hw hK
    obtain ⟨⟨old, he⟩, hit, hne⟩ := st
    obtain ⟨xs, hq, hx⟩ := hg
    obtain ⟨its, rv, p, hz⟩ := I.tuple hq
    have p' : s.heap.IsTuple a its.toArray := p
    obtain ⟨f0, f1, f2, f3, f4, f5⟩ := hf it (by simp)
    have hl := rv.length
    have hai : a ≠ it := fun z => by
      obtain ⟨o1, e1, c1, _⟩ := p'
      obtain ⟨o2, e2, c2, _⟩ := hit
      rw [z, e2] at e1
      cases e1
      rw [c1] at c2
      exact absurd c2 (by decide)
    have hT : s.TypeIs (.ref e) "enumerate" := ⟨_, he, rfl⟩
    unfold pyNext
    refine wpAny_bind (wpAny_attempt (wpAny_callSpecial?_slot (name := Str.ofString "__next__") hT F.slot_enumerate_next
      (wpAny_call_entry F.slot_enumerate_next hT F.entry_enumerate_next ?_ (F.args_enumerate_next_1 _))))
    show wpAny _ _ (field (.ref e) 2 >>= _) _ _ _
    refine wpAny_bind (wpAny_field he rfl (x := .ref it) rfl ?_)
    refine wpAny_bind (wpAny_nextOf_tuple_end (show X.A.in1.handled = none from I.ok.hd hc) hit p' (by simp; omega) fun h' x he' hx' => ?_)
    obtain ⟨o, ho, hc'⟩ := hx'
    refine wpAny_bind (wpAny_isInstance (T := "StopIteration") (b := true) ⟨o, ho, hc'⟩ isSubtype_stop ?_)
    exact wpAny_pure ⟨rfl, I.turned (t' := s.toks) (fun b o hb q => he' b o hb q) f0 f1 f3 f4 f5⟩
  self := fun A i s Q E st h => let ⟨⟨_, he⟩, _⟩ := st; wpAny_pyIter_enum he h

theorem meets_enumerate_newT {v : Value} {o : Obj} {H : Heap → Prop} (B : Begins v o H) :
    Meets (Builtin.«enumerate.__new__» ⟨[.type "enumerate", v], []⟩) (fun _ R s => H s.heap ∧
      R (.ok (.ret (.ref (s.heap.push o).objs.size))) { s with heap := (s.heap.push o).push { cls := .type "enumerate", data := .fields #[.none, .bool false, .ref s.heap.objs.size, rawInt 0, .none, .none] } }) :=
  .of_wp fun prog w A R s h => by
    obtain ⟨hp, g, d, tk, os⟩ := s; obtain ⟨h1, h⟩ := h
    have hsub := sub_enumerate
    have q1 : ∀ {A' : Around} {E : Value → Shared → Prop} {Q : Value → Shared → Prop}, Q (.ref hp.objs.size) ⟨hp.push o, g, d, tk, os⟩ → wpAny (model prog w) A' (pyIter v) Q E ⟨hp, g, d, tk, os⟩ :=
      fun q => B.iter prog w _ _ ⟨hp, g, d, tk, os⟩ _ h1 q
    wp_walk using q1
    refine wpAny_stack_any fun st => wpAny_pure ?_
    split
    · rename_i c _ _ _ _ _
      cases (c == Value.type "enumerate")
      · wp_walk using q1
        exact ⟨_, rfl, h⟩
      · wp_walk using q1
        exact ⟨_, rfl, h⟩
    · wp_walk using q1
      exact ⟨_, rfl, h⟩
theorem call_enumerate_tuple {prog : Program} {w : World} {A : Around} {E : Value → Shared → Prop} {s : Shared} {l : Addr} {items : Array Value} {Q : Value → Shared → Prop} (hL : s.heap.IsTuple l items)
    (h : ∀ h', IsEnum h' (s.heap.objs.size + 1) s.heap.objs.size 0 .none → h'.IsTupleIter s.heap.objs.size l 0 → h'.objs.size = s.heap.objs.size + 2 →
      (∀ b o, s.heap.get? b = some o → h'.get? b = some o) → Q (.ref (s.heap.objs.size + 1)) { s with heap := h' }) :
    wpAny (model prog w) A (call (.type "enumerate") [.ref l]) Q E s := by
  have B := begins_tuple l items
  refine callType_new F.called_enumerate (by decide) (F.typeCall_enumerate_1 _) (F.newCall_enumerate_1 _) (fun obj => F.args_object_init_2 obj _) F.entry_enumerate_new
    (meets_enumerate_newT B) ⟨hL, ?_⟩
  have hz : (s.heap.push { cls := .type "tuple_iterator", data := .fields #[.ref l, .int 0 0] }).objs.size = s.heap.objs.size + 1 := Heap.size_push ..
  show _ ∧ _
  rw [hz]
  have he : IsEnum ((s.heap.push { cls := .type "tuple_iterator", data := .fields #[.ref l, .int 0 0] }).push
      { cls := .type "enumerate", data := .fields #[.none, .bool false, .ref s.heap.objs.size, rawInt 0, .none, .none] }) (s.heap.objs.size + 1) s.heap.objs.size 0 .none := by
    have := Heap.get?_push_size (s.heap.push { cls := .type "tuple_iterator", data := .fields #[.ref l, .int 0 0] })
      (o := { cls := .type "enumerate", data := .fields #[.none, .bool false, .ref s.heap.objs.size, rawInt 0, .none, .none] }) rfl
    rw [hz] at this; exact this
  refine ⟨⟨_, he, rfl⟩, h _ he ⟨_, Heap.get?_push_of_some _ (Heap.get?_push_size _ rfl), rfl, rfl⟩ (by rw [Heap.size_push, hz]) fun b o x => Heap.get?_push_of_some _ (Heap.get?_push_of_some _ x)⟩
def iEnumT (K : PySem.W.Frag) (ta : TA) : TI := fun σ H R => ta σ H fun vs H1 => ∃ a xs, vs = [.ref a] ∧ SqT K H1 a xs ∧ R (Itet K a) H1
theorem pi_enumT {X : Cx} {e : Expr} {ta : TA} {p pos tpos : Pos} {elts : List Expr} {kk : Nat} (hg : Gl X "enumerate") (hm : X.mg "enumerate" = none) (ha : PA X [e] ta) (hs : starEach [e] X.env = [(false, eval e X.env)] := by rfl) :
    PI X (.Tuple elts kk tpos) (.Call (.Name "enumerate" p) [e] [] pos) (iEnumT X.K ta) := by
  refine ⟨fun pins s σ H R I h => ?_⟩
  refine Call_ (ld_blt I hg hm boot_enumerate (PyProof.Rows.callWith_type1 (thn (ha.run pos pins s σ H _ I h) fun us s1 ⟨vs, H1, I1, r1, q1⟩ => ?_) hs rfl))
  obtain ⟨a, xs, ex, hq, q⟩ := q1
  subst ex
  cases r1 with
  | cons r rr =>
    cases rr
    cases r
    obtain ⟨its, rv, p', hz⟩ := I1.tuple hq
    refine call_enumerate_tuple (show s1.heap.IsTuple a its.toArray from p') fun h' he hit hsz hk => wpAny_pyIter_enum he ?_
    have I2 : Inv X pins σ H1 { s1 with heap := h' } := I1.kept (t' := s1.toks) hk
    refine ⟨s1.heap.objs.size + 1, [s1.heap.objs.size + 1, s1.heap.objs.size], _, _, H1, rfl, I2, turn_enumT a (s1.heap.objs.size + 1) s1.heap.objs.size, ⟨⟨.none, he⟩, hit, Nat.succ_ne_self _⟩, fun b hb => ?_, q⟩
    have e' : b = s1.heap.objs.size + 1 ∨ b = s1.heap.objs.size := by simpa using hb
    have hle : s1.heap.objs.size ≤ b := by
      rcases e' with z | z
      · rw [z]; exact Nat.le_add_right _ _
      · rw [z]; exact Nat.le_refl _
    exact I1.fpOk hle (I1.hok.fresh hle)
end
end RX

namespace PySem.W
open PySem PySem.Spec PyProof.Rows
section
variable {prog : Program} {w : World} {A : Around} {E : Value → Shared → Prop} {s : Shared} {K : Frag} {x D : Addr} {ox : Obj} {od : Option Obj}
theorem findObj_dataX {C : Addr} {name : Str} {a g : Value} (hc : (clsIn K C).isSome = true) (ha : findIn K (.ref C) name = some (some a)) (hg : specialIn K a "__get__" = some (some g)) (ht : takesIn K a = some true) : findObj K C od name = some (.bind g a) := by
  obtain ⟨cd, hc⟩ := Option.isSome_iff_exists.mp hc
  unfold findObj
  rw [hc, Option.bind_some, ha, Option.bind_some]
  simp [hg, ht]
theorem kin_classX {Q : Option Value → Shared → Prop} (hga : findIn K (.ref D) "__getattribute__" = some (some (.builtin "BaseException.__getattribute__"))) (hgt : findIn K (.ref D) "__getattr__" = some none) (hsub : subIn K (.ref D) (.type "BaseException") = some true)
    (hdct : hasDictIn K D = true) (ha : findIn K (.ref D) "__class__" = some (some (.builtin "object.__class__")))
    (hn : specialIn K (.builtin "object.__class__") "__get__" = some (some (.builtin "getset_descriptor.__get__"))) (htk : takesIn K (.builtin "object.__class__") = some true) (hm : mroIn K D (.type "object") = some true)
    (X : K.In s.heap) (I : InstAt s.heap x ox D od) (h : Q (some (.ref D)) { s with toks := s.toks + 1 }) : wpAny (model prog w) A (getAttr? (.ref x) "__class__") Q E s := by
  have hf : findObj K D od "__class__" = some (.bind (.builtin "getset_descriptor.__get__") (.builtin "object.__class__")) := findObj_dataX (by obtain ⟨cd, hc, _⟩ := any_some hdct; rw [hc]; rfl) ha hn htk
  obtain ⟨hp, g, d, t, os⟩ := s
  have L0 := I.type (M := model prog w)
  have L1 := looks_findIn (M := model prog w) X hga
  have L2 := looks_findIn (M := model prog w) X hgt
  have L3 := looks_find (M := model prog w) X I hf
  have sub : Looks (model prog w) hp (isInstance (.ref x) (.type "BaseException")) true := L0.andThen (looks_subIn X hsub)
  have hx0 : (false && onTheHeap (Value.builtin "BaseException.__getattribute__")) = false := rfl
  have hx2 : (Value.builtin "BaseException.__getattribute__" == Value.builtin "object.__getattribute__") = false := by decide +kernel
  have hx1 : (onTheHeap (Value.ref D) && Value.builtin "BaseException.__getattribute__" == Value.builtin "object.__getattribute__") = false := by rw [hx2]; rfl
  unfold getAttr? getAttrBy? getAttrBy
  refine wpAny_bind (wpAny_mkText (wpAny_bind (wpAny_attempt (wpAny_holding (wpAny_bind (L0.at (wpAny_bind (L1.at ?_))))))))
  show wpAny _ _ (if (onTheHeap (Value.ref D) && Value.builtin "BaseException.__getattribute__" == Value.builtin "object.__getattribute__") = true then _ else _) _ _ _
  rw [hx1, if_neg Bool.false_ne_true]
  unfold getAttrByItsOwn hookBefore
  refine wpAny_bind ?_
  rw [if_pos (show onTheHeap (Value.ref D) = true from rfl)]
  refine L2.at ?_
  refine wpAny_bind (wpAny_attempt (wpAny_holding ?_))
  unfold callGetattribute
  rw [hx0, if_neg Bool.false_ne_true]
  unfold boundAndCalled
  rw [PySem.F.excAttr_ValueError.ga.bind (.ref x)]
  refine wpAny_bind (wpAny_pure ?_)
  show wpAny _ _ (call (.builtin "BaseException.__getattribute__") [.ref x, .str "__class__" t]) _ _ _
  refine wpAny_call (codeAny_call_builtin PySem.F.excAttr_ValueError.ga.plain PySem.F.entry_bexc_ga ?_)
  refine @check_slot (model prog w) _ _ ⟨hp, g, d, t + 1, os⟩ "BaseException.__getattribute__" "BaseException" "__getattribute__" (.ref x) [.str "__class__" t] [] _ (by decide +kernel) (by decide +kernel) sub (PySem.F.args_bexc_ga (.ref x) (.str "__class__" t)) ?_
  unfold Builtin.«object.__getattribute__»
  refine wpAny_bind (wpAny_of_eq (a := ((Value.ref x : Value), [Value.str "__class__" t])) (by first | rfl | (simp only [slotArgs]; rfl)) ?_)
  refine wpAny_bind (wpAny_pure (wpAny_bind (L0.at (wpAny_bind (L3.at ?_)))))
  show wpAny _ _ (holding [Value.builtin "object.__class__"] (call (.builtin "getset_descriptor.__get__") [.builtin "object.__class__", .ref x, .ref D]) >>= ret) _ _ _
  refine wpAny_bind (wpAny_holding (wpAny_call (class_get (s := ⟨hp, g, d, t + 1, os⟩) (ox := ox) (od := od) X I hm ?_)))
  refine wpAny_pure ?_
  show wpAny _ _ (handedOut (.ref D)) _ _ _
  rw [handedOut_of (v := .ref D) rfl]
  first
    | exact wpAny_pure (wpAny_pure h)
    | exact wpAny_pure h
    | exact wpAny_pure (wpAny_bind (wpAny_pure (wpAny_pure h)))
theorem kitx_excX (hga : findIn K (.ref D) "__getattribute__" = some (some (.builtin "BaseException.__getattribute__"))) (hgt : findIn K (.ref D) "__getattr__" = some none) (hsub : subIn K (.ref D) (.type "BaseException") = some true) (hdct : hasDictIn K D = true) (ha : findIn K (.ref D) "__class__" = some (some (.builtin "object.__class__")))
    (hn : specialIn K (.builtin "object.__class__") "__get__" = some (some (.builtin "getset_descriptor.__get__"))) (htk : takesIn K (.builtin "object.__class__") = some true) (hm : mroIn K D (.type "object") = some true) :
    KitX K (.ref x) (.ref D) (fun h => InstAt h x ox D od) where
  ty := fun _ _ _ I => I.type
  it := fun _ _ X _ => by
    obtain ⟨cdD, hcD, _⟩ := any_some hdct
    unfold clsIn at hcD
    split at hcD
    · rename_i c' d' cd' sl' ho
      intro A' Q' E' s' k q
      unfold isType loadHead
      exact wpAny_bind (wpAny_loadPart (k _ _ (X _ _ ho)) (wpAny_pure q))
    · cases hcD
  ne := fun h tp dd its n sl X htp => by
    obtain ⟨cdD, hcD, _⟩ := any_some hdct
    refine Bool.eq_false_iff.mpr fun q => ?_
    have e : D = tp := Value.ref.inj (beq_iff_eq.mp q)
    subst e
    unfold clsIn at hcD
    split at hcD
    · rename_i c' d' cd' sl' ho
      have z := (X _ _ ho).symm.trans htp
      cases z
    · cases hcD
  ca := fun X I k => kin_classX hga hgt hsub hdct ha hn htk hm X I k
end
end PySem.W
namespace RX
open PySem PySem.Spec PyProof.Rows L2
/-- isinstance(e, c), e the exception that the suite holds, which has a dict of its own -/
def rIsX (K : PySem.W.Frag) (D a : Addr) : List V → Hp → VK → Prop := fun xs H Q => ∃ (c : V) (cv : Value) (b : Bool) (dd : Addr) (fs : List (Str × V)), xs = [.ref a, c] ∧ (∀ u, RelV c u → u = cv) ∧ H dd = some (.xd fs) ∧ PySem.W.kitOne K (.ref D) cv = some b ∧ Q (.bl b) H
theorem call_isX {X : Cx} {a D dd : Addr} {oe : Obj} {pn : List (Addr × Obj)} (C : ExcC X.K D) (hz : Zc (.ref D) (some dd) oe) (hf : ∃ vs, oe.data = .fields vs) :
    CallR (X.suite a ((a, oe) :: pn)) (.builtin "isinstance") (fun xs H Q => ∃ (c : V) (cv : Value) (b : Bool) (fs : List (Str × V)), xs = [.ref a, c] ∧ (∀ u, RelV c u → u = cv) ∧ H dd = some (.xd fs) ∧ PySem.W.kitOne X.K (.ref D) cv = some b ∧ Q (.bl b) H) := by
  intro pins s σ H xs us Q I r h
  obtain ⟨c, cv, b, fs, rfl, hcv, hd, e, q⟩ := h
  cases r with
  | cons rx rr =>
    cases rr with
    | cons rt rr =>
      cases rr
      cases rx
      have ec := hcv _ rt
      subst ec
      obtain ⟨hget, _⟩ := I.pin (a, oe) (List.mem_append.mpr (.inl List.mem_cons_self))
      obtain ⟨vs, hv⟩ := hf
      have hx : ObjOk X.prog X.w H s.heap dd (.xd fs) := I.hok dd _ hd
      obtain ⟨mA, ⟨od, es, ep, ho, _⟩, _⟩ := hx
      have J : PySem.W.InstAt s.heap a oe D (some od) := ⟨hget, hz.1, by unfold PySem.W.notCls; rw [hv] <;> rfl, by rw [hz.2]; exact ho⟩
      exact PySem.W.kia_one (PySem.W.kitx_excX C.hg C.hk C.hs C.hd C.ha C.hn C.ht C.hm) I.kIn J e (fun z => nomatch z) fun tk => ⟨.bl b, H, I.kept (t' := tk) fun _ _ z => z, rfl, q⟩
end RX

/-! union readings by the values' shapes, steps of readings, defs with their binding -/
namespace RX
open PySem PySem.Spec PyProof.Rows L2

/-- a new object: what follows holds at any free address -/
def Nw (H : Hp) (o : HO) (Q : VK) : Prop := ∀ p, H p = none → Q (.ref p) (upd H p o)
theorem Same.nw {H : Hp} {p : Addr} {o : HO} (h : H p = none) : Same H (upd H p o) := fun b u e => by
  rw [upd_ne (ne_of_none e h)]
  exact e
theorem nw_in {H : Hp} {o : HO} {Q : VK} (k : ∀ p H', H p = none → Same H H' → H' p = some o → Q (.ref p) H') : Nw H o Q := fun p hp => k p _ hp (Same.nw hp) upd_same
theorem nw_of {H : Hp} {o : HO} {Q : VK} (k : Nw H o Q) : ∀ p, H p = none → Q (.ref p) (upd H p o) := k
/-- an object of ours is written -/
theorem up_in {H : Hp} {p : Addr} {o : HO} {Q : Hp → Prop} (k : ∀ H', (∀ b, b ≠ p → H' b = H b) → H' p = some o → Q H') : Q (upd H p o) := k _ (fun _ h => upd_ne h) upd_same

section
variable {X : Cx}
theorem OpR.or {f : Value → Value → Sem Value} {r r' : R2} (h : OpR X f r) (h' : OpR X f r') : OpR X f (fun x y H Q => r x y H Q ∨ r' x y H Q) := by
  intro pins s σ H x y v u Q I rx ry q
  rcases q with q | q
  · exact h pins s σ H x y v u Q I rx ry q
  · exact h' pins s σ H x y v u Q I rx ry q
theorem OpR.imp {f : Value → Value → Sem Value} {r r' : R2} (h : OpR X f r) (w : ∀ x y H Q, r' x y H Q → r x y H Q) : OpR X f r' := by
  intro pins s σ H x y v u Q I rx ry q
  exact h pins s σ H x y v u Q I rx ry (w _ _ _ _ q)
theorem CallR.or {f : Value} {r r' : List V → Hp → VK → Prop} (h : CallR X f r) (h' : CallR X f r') : CallR X f (fun xs H Q => r xs H Q ∨ r' xs H Q) := by
  intro pins s σ H xs us Q I rx q
  rcases q with q | q
  · exact h pins s σ H xs us Q I rx q
  · exact h' pins s σ H xs us Q I rx q
theorem CallR.imp {f : Value} {r r' : List V → Hp → VK → Prop} (h : CallR X f r) (w : ∀ xs H Q, r' xs H Q → r xs H Q) : CallR X f r' := by
  intro pins s σ H xs us Q I rx q
  exact h pins s σ H xs us Q I rx (w _ _ _ q)
theorem pe_alt {e : Expr} {t u : TE} (h : PE X e t) (h' : PE X e u) : PE X e (fun σ H Q => t σ H Q ∨ u σ H Q) :=
  ⟨fun pins s σ H Q I q => q.elim (h.run pins s σ H Q I) (h'.run pins s σ H Q I)⟩
theorem pt_alt {e : Expr} {t u : TT} (h : PT X e t) (h' : PT X e u) : PT X e (fun σ H Q => t σ H Q ∨ u σ H Q) :=
  ⟨fun pins s σ H Q I q => q.elim (h.run pins s σ H Q I) (h'.run pins s σ H Q I)⟩
theorem ps_alt {e : Stmt} {t u : TS} (h : PS X e t) (h' : PS X e u) : PS X e (fun D σ H => t D σ H ∨ u D σ H) :=
  ⟨fun pins s σ H D I q => q.elim (h.run pins s σ H D I) (h'.run pins s σ H D I)⟩
theorem pi_alt {tg l : Expr} {t u : TI} (h : PI X tg l t) (h' : PI X tg l u) : PI X tg l (fun σ H R => t σ H R ∨ u σ H R) :=
  ⟨fun pins s σ H R I q => q.elim (h.run pins s σ H R I) (h'.run pins s σ H R I)⟩

/-! ### + -/
def rAddU (K : PySem.W.Frag) : R2 := fun x y H Q => match x, y with
  | .int i, .int j => Q (.int (i + j)) H
  | .str a, .str b => a.length + b.length ≤ sizeLine ∧ Q (.str (a ++ b)) H
  | .ref l, .ref b => (∃ xs zs, SqL K H l xs ∧ SqL K H b zs ∧ xs.length + zs.length ≤ sizeLine ∧ Nw H (.lst (xs ++ zs)) Q) ∨ rCatT K (.ref l) (.ref b) H Q
  | _, _ => False
theorem op_addU : OpR X (binaryOp .Add) (rAddU X.K) := by
  intro pins s σ H x y v u Q I rx ry q
  cases x with
  | int i => cases y with
    | int j => exact op_add pins s σ H _ _ v u Q I rx ry ⟨i, j, rfl, rfl, q⟩
    | _ => exact q.elim
  | str a => cases y with
    | str b => exact op_add_str pins s σ H _ _ v u Q I rx ry ⟨a, b, rfl, rfl, q.1, q.2⟩
    | _ => exact q.elim
  | ref l => cases y with
    | ref b =>
      rcases q with ⟨xs, zs, h1, h2, hz, k⟩ | q
      · exact op_catS pins s σ H _ _ v u Q I rx ry ⟨l, b, xs, zs, rfl, rfl, h1, h2, hz, k⟩
      · exact op_catT pins s σ H _ _ v u Q I rx ry q
    | _ => exact q.elim
  | _ => exact q.elim
/-! ### * : ints of any size, a list times an int -/
def rMulU : R2 := fun x y H Q => match x, y with
  | .int i, .int j => (CMulW i j ∨ CMul i j) ∧ Q (.int (i * j)) H
  | .ref l, .int k => ∃ xs, H l = some (.lst xs) ∧ -(2 ^ 63) ≤ k ∧ k < 2 ^ 63 ∧ xs.length * k.toNat ≤ sizeLine ∧ Nw H (.lst (List.replicate k.toNat xs).flatten) Q
  | _, _ => False
theorem op_mulU : OpR X (binaryOp .Mult) rMulU := by
  intro pins s σ H x y v u Q I rx ry q
  cases x with
  | int i => cases y with
    | int j =>
      rcases q with ⟨c | c, q⟩
      · exact op_mulW pins s σ H _ _ v u Q I rx ry ⟨i, j, rfl, rfl, c, q⟩
      · exact op_mul pins s σ H _ _ v u Q I rx ry ⟨i, j, rfl, rfl, c, q⟩
    | _ => exact q.elim
  | ref l => cases y with
    | int k =>
      obtain ⟨xs, h1, h2, h3, h4, q⟩ := q
      exact op_rep pins s σ H _ _ v u Q I rx ry ⟨l, k, xs, rfl, rfl, h1, h2, h3, h4, q⟩
    | _ => exact q.elim
  | _ => exact q.elim
/-! ### ==, != -/
def rEqU (K : PySem.W.Frag) : R2 := fun x y H Q => rEq x y H Q ∨ rEqD K x y H Q
def rNeU (K : PySem.W.Frag) : R2 := fun x y H Q => rNe x y H Q ∨ rNeD K x y H Q
theorem op_eqU (hu : X.A.units + 64 < cLine) : OpR X (compareOp .Eq) (rEqU X.K) := OpR.or op_eq (op_eqD hu)
theorem op_neU (hu : X.A.units + 64 < cLine) : OpR X (compareOp .NotEq) (rNeU X.K) := OpR.or op_ne (op_neD hu)
/-! ### in, not in: one sign in a text; a flat thing in a list or tuple -/
def rInU (K : PySem.W.Frag) (neg : Bool) : R2 := fun x y H Q => match y with
  | .str z => ∃ c : Nat, x = .str ⟨#[c]⟩ ∧ Q (.bl (if neg then !decide (c ∈ z.cps.toList) else decide (c ∈ z.cps.toList))) H
  | .ref p => ∃ xs, (SqL K H p xs ∨ SqT K H p xs) ∧ flatV x = true ∧ xs.all flatV = true ∧ Q (.bl (if neg then !inV x xs else inV x xs)) H
  | _ => False
theorem op_inU : OpR X (compareOp .In) (rInU X.K false) := by
  intro pins s σ H x y v u Q I rx ry q
  cases y with
  | str z =>
    obtain ⟨c, ex, q⟩ := q
    exact op_in_sign pins s σ H _ _ v u Q I rx ry ⟨c, z, ex, rfl, q⟩
  | ref p =>
    obtain ⟨xs, h1, h2, h3, q⟩ := q
    exact op_in_seq pins s σ H _ _ v u Q I rx ry ⟨p, xs, rfl, h1, h2, h3, q⟩
  | _ => exact q.elim
theorem op_ninU : OpR X (compareOp .NotIn) (rInU X.K true) := by
  intro pins s σ H x y v u Q I rx ry q
  cases y with
  | str z =>
    obtain ⟨c, ex, q⟩ := q
    exact op_notIn_sign pins s σ H _ _ v u Q I rx ry ⟨c, z, ex, rfl, q⟩
  | ref p =>
    obtain ⟨xs, h1, h2, h3, q⟩ := q
    exact op_notIn_seq pins s σ H _ _ v u Q I rx ry ⟨p, xs, rfl, h1, h2, h3, q⟩
  | _ => exact q.elim
/-! ### len -/
def rLenU (K : PySem.W.Frag) : List V → Hp → VK → Prop := fun xs H Q => match xs with
  | [.str z] => z.length ≤ sizeLine ∧ Q (.int z.length) H
  | [.ref p] => (∃ ys, (SqL K H p ys ∨ SqT K H p ys) ∧ Q (.int ys.length) H) ∨ ∃ kvs, H p = some (.dK kvs) ∧ Q (.int kvs.length) H
  | _ => False
theorem call_lenU : CallR X (.builtin "len") (rLenU X.K) := by
  intro pins s σ H xs us Q I r q
  match xs, r, q with
  | [.str z], r, q => exact call_len_str pins s σ H _ us Q I r ⟨z, rfl, q.1, q.2⟩
  | [.ref p], r, q =>
    rcases q with ⟨ys, h, q⟩ | ⟨kvs, h, q⟩
    · exact call_len_seq pins s σ H _ us Q I r ⟨p, ys, rfl, h, q⟩
    · exact call_lenD pins s σ H _ us Q I r ⟨p, kvs, rfl, h, q⟩
/-! ### list(x), tuple(x) of sequences -/
def rListU (K : PySem.W.Frag) : List V → Hp → VK → Prop := fun xs H Q => match xs with
  | [.ref p] => ∃ ys, (SqL K H p ys ∨ SqT K H p ys) ∧ Nw H (.lst ys) Q
  | _ => False
theorem call_listU : CallR X (.type "list") (rListU X.K) := by
  intro pins s σ H xs us Q I r q
  match xs, r, q with
  | [.ref p], r, ⟨ys, h, q⟩ => exact call_list_of pins s σ H _ us Q I r ⟨p, ys, rfl, h, q⟩
def rTupleU (K : PySem.W.Frag) : List V → Hp → VK → Prop := fun xs H Q => match xs with
  | [.ref p] => (∃ ys, SqL K H p ys ∧ Nw H (.tup ys) Q) ∨ ∃ ys, SqT K H p ys ∧ Q (.ref p) H
  | _ => False
theorem call_tupleU : CallR X (.type "tuple") (rTupleU X.K) := by
  intro pins s σ H xs us Q I r q
  match xs, r, q with
  | [.ref p], r, .inl ⟨ys, h, q⟩ => exact call_tuple_of pins s σ H _ us Q I r ⟨p, ys, rfl, .inl ⟨h, q⟩⟩
  | [.ref p], r, .inr ⟨ys, h, q⟩ => exact call_tuple_of pins s σ H _ us Q I r ⟨p, ys, rfl, .inr ⟨h, q⟩⟩
def rInt1 : List V → Hp → VK → Prop := fun xs H Q => match xs with
  | [.int i] => Q (.int i) H
  | [.bl k] => Q (.int (if k then 1 else 0)) H
  | _ => False
theorem call_intU : CallR X (.type "int") rInt1 := by
  intro pins s σ H xs us Q I r q
  match xs, r, q with
  | [.int i], r, q => exact call_int1 pins s σ H _ us Q I r (.inl ⟨i, rfl, q⟩)
  | [.bl k], r, q => exact call_int1 pins s σ H _ us Q I r (.inr ⟨k, rfl, q⟩)
/-! ### items, slices -/
def rIxU (K : PySem.W.Frag) : R2 := fun x y H Q => match x, y with
  | .ref p, .int i => ∃ xs v, (SqL K H p xs ∨ SqT K H p xs) ∧ atI xs i = some v ∧ Q v H
  | .str z, .int i => ∃ c, z.length ≤ sizeLine ∧ atI z.cps.toList i = some c ∧ Q (.str ⟨#[c]⟩) H
  | _, _ => False
theorem IxR.imp {r r' : R2} (h : IxR X r) (w : ∀ x y H Q, r' x y H Q → r x y H Q) : IxR X r' :=
  fun value slice pins s σ H x y v u Q I rx ry q hs => h value slice pins s σ H x y v u Q I rx ry (w _ _ _ _ q) hs
theorem ix_U : IxR X (rIxU X.K) := IxR.imp ix_seq fun x y H Q q => by
  cases x with
  | ref p => cases y with
    | int i =>
      obtain ⟨xs, v, h | h, a, q⟩ := q
      · exact .inl ⟨p, xs, i, v, rfl, rfl, h, a, q⟩
      · exact .inr (.inl ⟨p, xs, i, v, rfl, rfl, h, a, q⟩)
    | _ => exact q.elim
  | str z => cases y with
    | int i =>
      obtain ⟨c, h, a, q⟩ := q
      exact .inr (.inr ⟨z, i, c, rfl, rfl, h, a, q⟩)
    | _ => exact q.elim
  | _ => exact q.elim
def rSlU (K : PySem.W.Frag) : V → Option Int → Option Int → Hp → VK → Prop := fun x lo hi H Q => match x with
  | .ref p => ∃ xs, SqL K H p xs ∧ Nw H (.lst (cutV xs lo hi)) Q
  | .str z => z.length ≤ sizeLine ∧ Q (.str (cutS z lo hi)) H
  | _ => False
theorem SlR.imp {r r' : V → Option Int → Option Int → Hp → VK → Prop} (h : SlR X r) (w : ∀ x l u H Q, r' x l u H Q → r x l u H Q) : SlR X r' :=
  fun pins s σ H x v vl vu lo hi sl Q I rx hs pl pu q => h pins s σ H x v vl vu lo hi sl Q I rx hs pl pu (w _ _ _ _ _ q)
theorem sl_U : SlR X (rSlU X.K) := SlR.imp (SlR.or sl_list sl_str) fun x lo hi H Q q => by
  cases x with
  | ref p =>
    obtain ⟨xs, h, q⟩ := q
    exact .inl ⟨p, xs, rfl, h, q⟩
  | str z => exact .inr ⟨z, rfl, q.1, q.2⟩
  | _ => exact q.elim
/-! ### what a for walks: a list, a tuple, a text -/
def SeqIt (K : PySem.W.Frag) (x : V) (H1 : Hp) (R : It → Hp → Prop) : Prop := match x with
  | .ref a => (∃ xs, SqL K H1 a xs ∧ R (Itl K a) H1) ∨ ∃ xs, SqT K H1 a xs ∧ R (Itt K a) H1
  | .str z => R (Its z) H1
  | _ => False
def iSeqU (K : PySem.W.Frag) (t : TE) : TI := fun σ H R => t σ H fun x H1 => SeqIt K x H1 R
theorem pi_U {tg e : Expr} {te : TE} (he : PE X e te) : PI X tg e (iSeqU X.K te) := by
  refine ⟨fun pins s σ H R I h => ?_⟩
  refine thn (he.run pins s σ H _ I h) fun v s1 ⟨x, H1, I1, r1, q⟩ => ?_
  cases x with
  | ref a =>
    cases r1
    rcases q with ⟨xs, hq, q⟩ | ⟨xs, hq, q⟩
    · obtain ⟨its, rv, p, hz⟩ := I1.list hq
      exact wpAny_pyIter_list p.isList (pi_one (tk := s1.toks) I1 _ (turn_list a _) ⟨_, Heap.get?_push_size _ rfl, rfl, rfl⟩ q)
    · obtain ⟨its, rv, p, hz⟩ := I1.tuple hq
      exact wpAny_pyIter_tuple (show s1.heap.IsTuple a its.toArray from p) (pi_one (tk := s1.toks) I1 _ (turn_tuple a _) ⟨_, Heap.get?_push_size _ rfl, rfl, rfl⟩ q)
  | str z =>
    obtain ⟨t, rfl⟩ := r1
    cases ha : z.cps.all (· < 128)
    · exact wpAny_pyIter_wide ha (pi_one (tk := s1.toks) I1 _ (turn_str _ z t "str_iterator" (.inr rfl)) ⟨_, Heap.get?_push_size _ rfl, rfl, rfl⟩ q)
    · exact wpAny_pyIter_ascii ha (pi_one (tk := s1.toks) I1 _ (turn_str _ z t "str_ascii_iterator" (.inl rfl)) ⟨_, Heap.get?_push_size _ rfl, rfl, rfl⟩ q)
  | _ => exact q.elim
end
end RX

namespace RX
open PySem PySem.Spec PyProof.Rows L2

/-! ### a def with its binding -/
def OkD (P : Program) (w : World) (K : PySem.W.Frag) (mg : Str → Option Value) (base : Heap) (k : Nat) (f : Addr) (ps : List Str) (sp : Sp) : Prop :=
  PySem.W.keepIn K (.ref f) = true ∧ ∃ fd, Binds K fd ps [] ∧ FnOk P w K mg base (L2.CX P w) k f fd ps sp
/-- a def of the text stands at f -/
def DefAt (K : PySem.W.Frag) (x qual : Str) (st : Stmt) (f : Addr) : Prop := ∃ fd, FunD K x qual (defArgs st) (defBody st) (defScope st) [] [] f fd
section
variable {P : Program} {w : World} {K : PySem.W.Frag} {mg : Str → Option Value} {base : Heap}
theorem OkD.of {x qual : Str} {st : Stmt} {f : Addr} {N ps : List Str} {k : Nat} {sp : Sp} (F : DefAt K x qual st f) (S : FnScope N ps (defScope st))
    (hb : ∀ (kV doc pm : Value) (an : Option Addr) (cdv ct : Value) (us : List Value), us.length = ps.length → bindArgs (PySem.W.fnOf x qual (defArgs st) (defBody st) (defScope st) .none kV doc pm an cdv ct) ⟨us, []⟩ = pure (ps.zip us))
    (len : ∀ vs H Q E, sp vs H Q E → vs.length = ps.length)
    (hbody : ∀ (cdv : Value) (A : Around) (outer : List Env) (s : Shared) (H : Hp) (vs : List V) (Q : VK) (E : XK), Room k (A.deeper (envOfC qual (defScope st) s.heap.objs.size f cdv)) → sp vs H Q E →
      ∃ t, PSs (cxOf (L2.CX P w) P w K mg base N qual (defScope st) f cdv A outer s H E) (defBody st) t ∧ t { nx := fun _ H' => Q .non H', rt := Q } (start N vs) H) : OkD P w K mg base (k + 1) f ps sp := by
  obtain ⟨fd, F⟩ := F
  exact ⟨F.kp, fd, F.bindsN hb, F.ok S len hbody⟩
theorem OkD.mono {j k : Nat} {f : Addr} {ps : List Str} {sp : Sp} (G : OkD P w K mg base j f ps sp) (h : j ≤ k) : OkD P w K mg base k f ps sp :=
  ⟨G.1, G.2.choose, G.2.choose_spec.1, G.2.choose_spec.2.mono h⟩
end
section
variable {X : Cx} {k : Nat} {f C : Addr} {ps : List Str} {sp : Sp} {E : XK} {x m : Str} {p pos apos : Pos} {e o : Expr} {es : List Expr} {ta : TE} {t : TA}
theorem pe_fn (G : OkD X.prog X.w X.K X.mg X.base k f ps sp) (hr : Room k X.A) (hg : Gl X x) (hm : X.mg x = some (.ref f)) (hx : Passes (L2.CX X.prog X.w) X E)
    (ha : PA X (e :: es) t) (hdb : (x == ("__debug__" : Str)) = false := by decide) (he : starEach (e :: es) X.env = (false, eval e X.env) :: starEach es X.env := by rfl) (hpl : (backTo pos (starEach es X.env)).any (·.1) = false := by rfl) :
    PE X (.Call (.Name x p) (e :: es) [] pos) (tCall sp [] E t) := by
  obtain ⟨kp, fd, hb, F⟩ := G
  exact pe_call F hr hg hm kp hb .nil hx ha hdb he hpl
theorem pe_fn0 (G : OkD X.prog X.w X.K X.mg X.base k f ps sp) (hr : Room k X.A) (hg : Gl X x) (hm : X.mg x = some (.ref f)) (hx : Passes (L2.CX X.prog X.w) X E)
    (hdb : (x == ("__debug__" : Str)) = false := by decide) : PE X (.Call (.Name x p) [] [] pos) (tCall sp [] E tNil) := by
  obtain ⟨kp, fd, hb, F⟩ := G
  exact pe_call0 F hr hg hm kp hb .nil hx hdb
/-- in a try's body: what is raised is wished for at the slots -/
theorem pe_fnS {ES : L2.St → XK} (G : OkD X.prog X.w X.K X.mg X.base k f ps sp) (hr : Room k X.A) (hg : Gl X x) (hm : X.mg x = some (.ref f)) (hx : ∀ σ, PassesAt (L2.CX X.prog X.w) X σ (ES σ))
    (ha : PA X (e :: es) t) (hdb : (x == ("__debug__" : Str)) = false := by decide) (he : starEach (e :: es) X.env = (false, eval e X.env) :: starEach es X.env := by rfl) (hpl : (backTo pos (starEach es X.env)).any (·.1) = false := by rfl) :
    PE X (.Call (.Name x p) (e :: es) [] pos) (tCallS sp ES t) := by
  obtain ⟨kp, fd, hb, F⟩ := G
  exact pe_callS F hr hg hm kp hb hx ha hdb he hpl
theorem pe_mt {pl : Sem Bool} (he : PE X o ta) (c : Cls X.K C) (hm : Meth X.K C m f) (G : OkD X.prog X.w X.K X.mg X.base k f ps sp) (hr : Room k X.A) (hx : Passes (L2.CX X.prog X.w) X E) (ha : PA X (e :: es) t)
    (hst : starEach (e :: es) X.env = (false, eval e X.env) :: starEach es X.env := by rfl) (hpl : (backTo pos (starEach es X.env)).any (·.1) = false := by rfl)
    (ht : eval (.Call (.Attribute o m apos) (e :: es) [] pos) X.env = (do
      let ov ← eval o X.env
      standAt apos.atName
      let (f, first) ← holding [ov] (getMethod ov m pl)
      callWith pos f first (backTo pos (starEach (e :: es) X.env)) (backToKw pos (keywordEach [] X.env))) := by rfl) :
    PE X (.Call (.Attribute o m apos) (e :: es) [] pos) (tMeth C m sp [] E ta t) := by
  obtain ⟨kp, fd, hb, F⟩ := G
  exact pe_meth he c hm F hr hb .nil hx ha hst hpl ht
theorem pe_mt0 {pl : Sem Bool} (he : PE X o ta) (c : Cls X.K C) (hm : Meth X.K C m f) (G : OkD X.prog X.w X.K X.mg X.base k f ps sp) (hr : Room k X.A) (hx : Passes (L2.CX X.prog X.w) X E)
    (ht : eval (.Call (.Attribute o m apos) [] [] pos) X.env = (do
      let ov ← eval o X.env
      standAt apos.atName
      let (f, first) ← holding [ov] (getMethod ov m pl)
      callWith pos f first (backTo pos (starEach [] X.env)) (backToKw pos (keywordEach [] X.env))) := by rfl) :
    PE X (.Call (.Attribute o m apos) [] [] pos) (tMeth C m sp [] E ta tNil) := by
  obtain ⟨kp, fd, hb, F⟩ := G
  exact pe_meth0 he c hm F hr hb .nil hx ht
theorem pe_um {mc : Value} {pl : Sem Bool} (he : PE X o ta) (r : ClX.CRead X.K C mc) (c : PySem.W.findCls X.K (.ref C) mc m = some (.val (.ref f))) (G : OkD X.prog X.w X.K X.mg X.base k f ps sp) (hr : Room k X.A) (hx : Passes (L2.CX X.prog X.w) X E) (ha : PA X (e :: es) t)
    (hst : starEach (e :: es) X.env = (false, eval e X.env) :: starEach es X.env := by rfl) (hpl : (backTo pos (starEach es X.env)).any (·.1) = false := by rfl)
    (ht : eval (.Call (.Attribute o m apos) (e :: es) [] pos) X.env = (do
      let ov ← eval o X.env
      standAt apos.atName
      let (f, first) ← holding [ov] (getMethod ov m pl)
      callWith pos f first (backTo pos (starEach (e :: es) X.env)) (backToKw pos (keywordEach [] X.env))) := by rfl) :
    PE X (.Call (.Attribute o m apos) (e :: es) [] pos) (tUMeth C sp E ta t) := by
  obtain ⟨kp, fd, hb, F⟩ := G
  exact pe_umeth he r c kp F hr hb hx ha hst hpl ht
theorem pe_mk (M : Mk X.K C f) (G : OkD X.prog X.w X.K X.mg X.base k f ps sp) (hr : Room (k + 1) X.A) (hg : Gl X x) (hm : X.mg x = some (.ref C)) (hx : Passes (L2.CX X.prog X.w) X E)
    (ha : PA X (e :: es) t) (hdb : (x == ("__debug__" : Str)) = false := by decide) (he : starEach (e :: es) X.env = (false, eval e X.env) :: starEach es X.env := by rfl) (hpl : (backTo pos (starEach es X.env)).any (·.1) = false := by rfl) :
    PE X (.Call (.Name x p) (e :: es) [] pos) (tMake C sp [] E t) := by
  obtain ⟨kp, fd, hb, F⟩ := G
  exact pe_make M F hr hg hm hb .nil hx ha hdb he hpl
/-- X(e, ..) that is raised: X's own __init__ walked as a def -/
theorem pmk_ox (T : OexC X.K C) (iC : PySem.W.findIn X.K (.ref C) "__init__" = some (some (.ref f))) (tI : PySem.W.typeIn X.K (.ref f) = some (.type "function"))
    (G : OkD X.prog X.w X.K X.mg X.base k f ps sp) (hr : Room (k + 1) X.A) (hg : Gl X x) (hm : X.mg x = some (.ref C)) (ha : PA X (e :: es) t)
    (hdb : (x == ("__debug__" : Str)) = false := by decide) (he : starEach (e :: es) X.env = (false, eval e X.env) :: starEach es X.env := by rfl) (hpl : (backTo pos (starEach es X.env)).any (·.1) = false := by rfl) :
    PMk X (.Call (.Name x p) (e :: es) [] pos) (tMkO C sp [] t) := by
  obtain ⟨kp, fd, hb, F⟩ := G
  exact pmk_oex T iC tI F hr hb .nil passL hg hm ha hdb he hpl
end
end RX

/-! facts of the text, read off the head by a Bool each -/
namespace RX
open PySem PySem.Spec PyProof.Rows L2

def oexB (K : PySem.W.Frag) (C : Addr) : Bool := (match K.lookup C with
  | some ⟨.type "type", _, .cls cd, sl⟩ => (match cd.mro, sl.toList with
    | .ref C' :: bm, [_, _, _, _, some (.builtin n), _] => C' == C && (n == "ValueError.__new__" && (!cd.hasDel && (cd.hasDict && PySem.HandSPX.refsVE bm)))
    | _, _ => false)
  | _ => false) && (decide (PySem.W.findIn K (.ref C) "__setattr__" = some (some (.builtin "object.__setattr__"))) && (decide (PySem.W.subIn K (.ref C) (.type "BaseException") = some true) &&
    (decide (PySem.W.typeIn K (.ref C) = some (.type "type")) && PySem.W.keepIn K (.ref C))))
theorem oexB_ok {K : PySem.W.Frag} {C : Addr} (q : oexB K C = true) : OexC K C := by
  unfold oexB at q
  obtain ⟨q, q1⟩ := Bool.and_eq_true_iff.mp q
  obtain ⟨q1, q2⟩ := Bool.and_eq_true_iff.mp q1
  obtain ⟨q2, q3⟩ := Bool.and_eq_true_iff.mp q2
  obtain ⟨q3, q4⟩ := Bool.and_eq_true_iff.mp q3
  refine ⟨?_, of_decide_eq_true q1, of_decide_eq_true q2, of_decide_eq_true q3, q4⟩
  split at q
  · rename_i dd cd sl ho
    split at q
    · rename_i C' bm k0 k1 k2 k3 n k5 hm hs
      simp only [Bool.and_eq_true, beq_iff_eq, Bool.not_eq_true'] at q
      obtain ⟨rfl, rfl, hdel, hdi, ht⟩ := q
      obtain ⟨nm, bs, mro, ns, qn, hd, sn, sub, ab, col, del⟩ := cd
      dsimp only at hm hdel hdi
      subst hm hdel hdi
      have hsl : sl = #[k0, k1, k2, k3, some (.builtin "ValueError.__new__"), k5] := by
        obtain ⟨l⟩ := sl
        simp only at hs
        rw [hs]
      subst hsl
      exact ⟨nm, qn, ns, bs, bm, sn, sub, ab, col, dd, k0, k1, k2, k3, k5, ho, ht⟩
    · cases q
  · cases q
def excB (K : PySem.W.Frag) (D : Addr) : Bool := decide (PySem.W.findIn K (.ref D) "__class__" = some (some (.builtin "object.__class__"))) && (decide (PySem.W.specialIn K (.builtin "object.__class__") "__get__" = some (some (.builtin "getset_descriptor.__get__"))) &&
  (decide (PySem.W.takesIn K (.builtin "object.__class__") = some true) && decide (PySem.W.mroIn K D (.type "object") = some true)))
theorem excB_ok {K : PySem.W.Frag} {D : Addr} (x : XfC K D) (q : excB K D = true) : ExcC K D := by
  obtain ⟨q, q1⟩ := Bool.and_eq_true_iff.mp q
  obtain ⟨q1, q2⟩ := Bool.and_eq_true_iff.mp q1
  obtain ⟨q2, q3⟩ := Bool.and_eq_true_iff.mp q2
  exact ⟨x.ga, x.gg, x.exC, x.hdC, of_decide_eq_true q, of_decide_eq_true q1, of_decide_eq_true q2, of_decide_eq_true q3⟩
/-- all that is asked of an own exception class with an own __init__ at f -/
structure ExcAt (K : PySem.W.Frag) (C f : Addr) : Prop where
  ox : OexC K C
  xf : XfC K C
  ec : ExcC K C
  ini : PySem.W.findIn K (.ref C) "__init__" = some (some (.ref f))
  fn : PySem.W.typeIn K (.ref f) = some (.type "function")
def excAtB (K : PySem.W.Frag) (C f : Addr) : Bool := oexB K C && (xfB K C && (excB K C && (decide (PySem.W.findIn K (.ref C) "__init__" = some (some (.ref f))) && decide (PySem.W.typeIn K (.ref f) = some (.type "function")))))
theorem excAtB_ok {K : PySem.W.Frag} {C f : Addr} (q : excAtB K C f = true) : ExcAt K C f := by
  obtain ⟨q1, q⟩ := Bool.and_eq_true_iff.mp q
  obtain ⟨q2, q⟩ := Bool.and_eq_true_iff.mp q
  obtain ⟨q3, q⟩ := Bool.and_eq_true_iff.mp q
  obtain ⟨q4, q5⟩ := Bool.and_eq_true_iff.mp q
  exact ⟨oexB_ok q1, xfB_ok q2, excB_ok (xfB_ok q2) q3, of_decide_eq_true q4, of_decide_eq_true q5⟩
/-- a class whose plain defs are called through it -/
def creadB (K : PySem.W.Frag) (C : Addr) : Bool := PySem.W.readsIn K C (.type "type") && decide (PySem.W.specialIn K (.ref C) "__getattribute__" = some (some (.builtin "type.__getattribute__")))
theorem creadB_ok {K : PySem.W.Frag} {C : Addr} (q : creadB K C = true) : ClX.CRead K C (.type "type") := by
  obtain ⟨q1, q2⟩ := Bool.and_eq_true_iff.mp q
  exact ⟨q1, of_decide_eq_true q2⟩
def cfunB (K : PySem.W.Frag) (C : Addr) (m : Str) (f : Addr) : Bool := match PySem.W.findCls K (.ref C) (.type "type") m with
  | some (.val (.ref a)) => decide (a = f)
  | _ => false
theorem cfunB_ok {K : PySem.W.Frag} {C : Addr} {m : Str} {f : Addr} (q : cfunB K C m f = true) : PySem.W.findCls K (.ref C) (.type "type") m = some (.val (.ref f)) := by
  unfold cfunB at q
  split at q
  · rename_i a e
    rw [e, of_decide_eq_true q]
  · cases q
/-- a list of facts -/
theorem all_at {l : List Bool} (h : l.all id = true) (i : Nat) {b : Bool} (e : l[i]? = some b) : b = true := List.all_eq_true.mp h b (List.mem_of_getElem? e)

/-! ### fields of a caught exception of any class; isinstance of it -/
def tXfD (K : PySem.W.Frag) (a : Addr) (cls : Value) (d : Option Addr) (f : Str) (te : TE) : TE := fun σ H Q => te σ H fun x H1 => x = .ref a ∧ ∃ (C dd : Addr) (fs : List (Str × V)) (v : V), cls = .ref C ∧ d = some dd ∧ XfC K C ∧ PySem.W.findIn K (.ref C) f = some none ∧ H1 dd = some (.xd fs) ∧ fs.lookup f = some v ∧ Q v H1
theorem pe_xfD {X : Cx} {a : Addr} {oe : Obj} {cls : Value} {d : Option Addr} {pn : List (Addr × Obj)} {e : Expr} {te : TE} {pos : Pos} {n : Str}
    (hz : Zc cls d oe) (hf : ∃ vs, oe.data = .fields vs) (he : PE (X.suite a ((a, oe) :: pn)) e te) (hb : attributeBase e n X.env (eval e X.env) = eval e X.env := by rfl) :
    PE (X.suite a ((a, oe) :: pn)) (.Attribute e n pos) (tXfD X.K a cls d n te) := by
  refine ⟨fun pins s σ H Q I h => ?_⟩
  refine attr_of hb (thn (he.run pins s σ H _ I h) fun u s1 hh => ?_)
  obtain ⟨x, H1, I1, rx, ex, C, dd, fs, v, ec, ed, T, hno, ea, l, q⟩ := hh
  subst ex
  obtain rfl : u = Value.ref a := rx
  subst ec
  subst ed
  obtain ⟨ha, _⟩ := I1.pin (a, oe) (List.mem_append_left _ List.mem_cons_self)
  obtain ⟨vs, hd⟩ := hf
  have hx : ObjOk X.prog X.w H1 s1.heap dd (.xd fs) := I1.hok dd _ ea
  obtain ⟨mA, hns, hr⟩ := hx
  obtain ⟨od, ho, hl⟩ := lookIn_ns hns
  obtain ⟨u, hu, ru⟩ := RelO.some_of (v := v) (o := mA n) (by rw [← l]; exact hr n)
  have J : PySem.W.InstAt s1.heap a oe C (some od) := ⟨ha, hz.1, by unfold PySem.W.notCls; rw [hd] <;> rfl, by rw [hz.2]; exact ho⟩
  exact HandSPX.exc_get I1.kIn J T.ga T.gg T.exC (PySem.W.findObj_own T.hdC hno rfl (by rw [hl, hu])) (handed_of ru) ⟨v, H1, I1.tok _, ru, q⟩
def rIsD (K : PySem.W.Frag) (a : Addr) (cls : Value) (d : Option Addr) : List V → Hp → VK → Prop := fun xs H Q => ∃ (D dd : Addr) (c : V) (cv : Value) (b : Bool) (fs : List (Str × V)), cls = .ref D ∧ d = some dd ∧ ExcC K D ∧ xs = [.ref a, c] ∧ (∀ u, RelV c u → u = cv) ∧ H dd = some (.xd fs) ∧ PySem.W.kitOne K (.ref D) cv = some b ∧ Q (.bl b) H
theorem call_isD {X : Cx} {a : Addr} {oe : Obj} {cls : Value} {d : Option Addr} {pn : List (Addr × Obj)} (hz : Zc cls d oe) (hf : ∃ vs, oe.data = .fields vs) :
    CallR (X.suite a ((a, oe) :: pn)) (.builtin "isinstance") (rIsD X.K a cls d) := by
  intro pins s σ H xs us Q I r h
  obtain ⟨D, dd, c, cv, b, fs, ec, ed, C, ex, hcv, hd, e, q⟩ := h
  subst ec
  subst ed
  exact call_isX C hz hf pins s σ H xs us Q I r ⟨c, cv, b, fs, ex, hcv, hd, e, q⟩
theorem relRef {a : Addr} : ∀ u, RelV (.ref a) u → u = Value.ref a := fun _ h => h
theorem relTy {n : String} : ∀ u, RelV (.ty n) u → u = Value.type n := fun _ h => h
/-! ### constants of the module -/
theorem pe_gint {X : Cx} {x : Str} {i : Int} {pos : Pos} (h : ∃ t, X.mg x = some (.int i t)) (hg : Gl X x := by rfl) (hd : (x == ("__debug__" : Str)) = false := by decide) : PE X (.Name x pos) (tC (.int i)) := by
  obtain ⟨t, h⟩ := h
  exact pe_glob hg h ⟨t, rfl⟩ hd
theorem pe_gstr {X : Cx} {x z : Str} {pos : Pos} (h : ∃ t, X.mg x = some (.str z t)) (hg : Gl X x := by rfl) (hd : (x == ("__debug__" : Str)) = false := by decide) : PE X (.Name x pos) (tC (.str z)) := by
  obtain ⟨t, h⟩ := h
  exact pe_glob hg h ⟨t, rfl⟩ hd
theorem pe_gref {X : Cx} {x : Str} {a : Addr} {pos : Pos} (h : X.mg x = some (.ref a)) (hg : Gl X x := by rfl) (hd : (x == ("__debug__" : Str)) = false := by decide) : PE X (.Name x pos) (tC (.ref a)) := pe_glob hg h rfl hd
end RX

namespace RX
open PySem PySem.Spec PyProof.Rows L2
section
variable {X : Cx} {K : PySem.W.Frag}
theorem kAdd (h : X.K = K) : OpR X (binaryOp .Add) (rAddU K) := h ▸ op_addU
theorem kEq (h : X.K = K) (hu : X.A.units + 64 < cLine) : OpR X (compareOp .Eq) (rEqU K) := h ▸ op_eqU hu
theorem kNe (h : X.K = K) (hu : X.A.units + 64 < cLine) : OpR X (compareOp .NotEq) (rNeU K) := h ▸ op_neU hu
theorem kIn (h : X.K = K) : OpR X (compareOp .In) (rInU K false) := h ▸ op_inU
theorem kNin (h : X.K = K) : OpR X (compareOp .NotIn) (rInU K true) := h ▸ op_ninU
theorem kLen (h : X.K = K) : CallR X (.builtin "len") (rLenU K) := h ▸ call_lenU
theorem kList (h : X.K = K) : CallR X (.type "list") (rListU K) := h ▸ call_listU
theorem kTuple (h : X.K = K) : CallR X (.type "tuple") (rTupleU K) := h ▸ call_tupleU
theorem kAll (h : X.K = K) (hc : X.calm = true) : CallR X (.builtin "all") (rAll K) := h ▸ cr_all hc
theorem kIx (h : X.K = K) : IxR X (rIxU K) := h ▸ ix_U
theorem kSl (h : X.K = K) : SlR X (rSlU K) := h ▸ sl_U
theorem kSeq (h : X.K = K) {tg e : Expr} {te : TE} (he : PE X e te) : PI X tg e (iSeqU K te) := h ▸ pi_U he
theorem kGt (h : X.K = K) {es : List Expr} {k : Nat} {t : TGs} {n : Nat} {pos : Pos} (hc : X.calm = true) (hs : PGs X es t) (hn : (assignEach es X.env).length = n := by rfl) (hst : (assignEach es X.env).findIdx? (·.1) = none := by rfl) : PG X (.Tuple es k pos) (gTup K n t) := by
  subst h
  exact pg_tup hc hs hn hst
theorem kFld (h : X.K = K) {e : Expr} {f : Str} {te : TE} {pos : Pos} (he : PE X e te) (hb : attributeBase e f X.env (eval e X.env) = eval e X.env := by rfl) : PE X (.Attribute e f pos) (tFld K te f) := by
  subst h
  exact pe_fld he hb
end
end RX

/-! steps of readings -/
namespace RX
open PySem PySem.Spec PyProof.Rows L2
/-- a field by values -/
def FldOf (K : PySem.W.Frag) (f : Str) : V → Hp → VK → Prop := fun x H1 Q => ∃ a C dx fs v, x = .ref a ∧ H1 a = some (.ins C dx fs) ∧ Cls K C ∧ NoAttr K C f ∧ fs.lookup f = some v ∧ Q v H1
/-- a comprehension's run -/
def LcB (J : It) (g : TG) (tt : TT) (te : TE) (vs : List Nat) (σ : L2.St) (H1 : Hp) (Q : VK) : Prop := ∀ D, H1 D = none → ∃ W : Nat → Nat → Hp → Prop, (∃ m, W 0 m (upd H1 D (.lst []))) ∧ ∀ i m H, W i m H →
  (J.stop i H ∧ Q (.ref D) H) ∨ (J.go i H ∧ ∃ Nx : Hp → Prop, (∀ H', Nx H' → ∃ m', m' < m ∧ W (i + 1) m' H') ∧ ∀ x H', J.yld i H x H' → g x (wipe σ vs) H' fun σ2 H2 => wipe σ2 vs = wipe σ vs ∧ tt σ2 H2 fun b H3 =>
    if b = true then te σ2 H3 fun y H4 => ∃ acc, H4 D = some (.lst acc) ∧ acc.length < sizeLine ∧ Nx (upd H4 D (.lst (acc ++ [y]))) else Nx H3)
section
variable {D : Ends} {σ : L2.St} {H : Hp} {Q : VK} {QB : Bool → Hp → Prop} {QA : List V → Hp → Prop} {QO : Option Int → Hp → Prop} {QG : L2.St → Hp → Prop}
theorem rd_seq {t u : TS} (h : t { D with nx := u D } σ H) : tSeq t u D σ H := h
theorem rd_nxt  (h : D.nx σ H) : tNext D σ H := h
theorem rd_ret {te : TE} (h : te σ H D.rt) : tRet te D σ H := h
theorem rd_retN  (h : D.rt .non H) : tRetN D σ H := h
theorem rd_drop {te : TE} (h : te σ H fun _ H1 => D.nx σ H1) : tDrop te D σ H := h
theorem rd_ifS {c : TT} {t u : TS} (h : c σ H fun b H1 => if b = true then t D σ H1 else u D σ H1) : tIfS c t u D σ H := h
theorem rd_asg {te : TE} {g : TG} (h : te σ H fun x H1 => g x σ H1 D.nx) : tAsg te g D σ H := h
theorem rd_cont  (h : D.ct σ H) : tCont D σ H := h
theorem rd_brk  (h : D.bk σ H) : tBreak D σ H := h
theorem rd_c {v : V} (h : Q v H) : tC v σ H Q := h
theorem rd_op {r : R2} {ta tb : TE} (h : ta σ H fun x H1 => tb σ H1 fun y H2 => r x y H2 Q) : tOp r ta tb σ H Q := h
theorem rd_un {r : V → Hp → VK → Prop} {ta : TE} (h : ta σ H fun x H1 => r x H1 Q) : tUn r ta σ H Q := h
theorem rd_cb {r : List V → Hp → VK → Prop} {t : TA} (h : t σ H fun vs H1 => r vs H1 Q) : tCB r t σ H Q := h
theorem rd_tup {t : TA} (h : t σ H fun xs H1 => xs.length ≤ sizeLine ∧ Nw H1 (.tup xs) Q) : tTup t σ H Q := h
theorem rd_lst {t : TA} (h : t σ H fun xs H1 => xs.length ≤ sizeLine ∧ Nw H1 (.lst xs) Q) : tLst t σ H Q := h
theorem rd_orV {ta tb : TE} (h : ta σ H fun x H1 => ∃ c, x = .bl c ∧ if c = true then Q (.bl true) H1 else tb σ H1 Q) : tOrV ta tb σ H Q := h
theorem rd_andV {ta tb : TE} (h : ta σ H fun x H1 => ∃ c, x = .bl c ∧ if c = true then tb σ H1 Q else Q (.bl false) H1) : tAndV ta tb σ H Q := h
theorem rd_notV {ta : TE} (h : ta σ H fun x H1 => ∃ c, x = .bl c ∧ Q (.bl (!c)) H1) : tNotV ta σ H Q := h
theorem rd_if {t : TT} {ta tb : TE} (h : t σ H fun c H1 => if c = true then ta σ H1 Q else tb σ H1 Q) : tIf t ta tb σ H Q := h
theorem rd_call {sp : Sp} {E : XK} {t : TA} (h : t σ H fun vs H1 => sp (vs ++ []) H1 Q E) : tCall sp [] E t σ H Q := h
theorem rd_callS {sp : Sp} {E : L2.St → XK} {t : TA} (h : t σ H fun vs H1 => sp vs H1 Q (E σ)) : tCallS sp E t σ H Q := h
theorem rd_meth {C : Addr} {m : Str} {sp : Sp} {E : XK} {ta : TE} {t : TA} (h : ta σ H fun x H1 => ∃ a dx fs, x = .ref a ∧ H1 a = some (.ins C dx fs) ∧ fs.lookup m = none ∧ t σ H1 fun vs H2 => sp (x :: (vs ++ [])) H2 Q E) : tMeth C m sp [] E ta t σ H Q := h
theorem rd_umeth {C : Addr} {sp : Sp} {E : XK} {ta : TE} {t : TA} (h : ta σ H fun x H1 => x = .ref C ∧ t σ H1 fun vs H2 => sp vs H2 Q E) : tUMeth C sp E ta t σ H Q := h
theorem rd_make {C : Addr} {sp : Sp} {E : XK} {t : TA} (h : t σ H fun vs H1 => ∀ x dx, H1 x = none → H1 dx = none → dx ≠ x → sp (.ref x :: (vs ++ [])) (upd (upd H1 dx (.own x)) x (.ins C dx [])) (fun v H2 => v = .non ∧ Q (.ref x) H2) E) : tMake C sp [] E t σ H Q := h
theorem rd_fld {K : PySem.W.Frag} {ta : TE} {f : Str} (h : ta σ H fun x H1 => FldOf K f x H1 Q) : tFld K ta f σ H Q := h
theorem rd_sl {r : V → Option Int → Option Int → Hp → VK → Prop} {te : TE} {tl th : TO} (h : te σ H fun x H1 => tl σ H1 fun l H2 => th σ H2 fun u H3 => r x l u H3 Q) : tSl r te tl th σ H Q := h
theorem rd_m1 {r : V → List V → Hp → VK → Prop} {to te : TE} (h : to σ H fun x H1 => (∃ a, x = .str a) ∧ te σ H1 fun y H2 => r x [y] H2 Q) : tM1 r to te σ H Q := h
theorem rd_chain {r r' : R2} {ta tb tc : TE} (h : ta σ H fun x H1 => tb σ H1 fun y H2 => r x y H2 fun z H3 => ∃ k, z = .bl k ∧ (if k = true then tc σ H3 fun w' H4 => r' y w' H4 Q else Q (.bl false) H3)) : tChain r r' ta tb tc σ H Q := h
theorem rd_lc {wi : TI} {g : TG} {tt : TT} {te : TE} {vs : List Nat} (h : wi σ H fun J H1 => LcB J g tt te vs σ H1 Q) : tLc wi g tt te vs σ H Q := h
theorem rd_or {t u : TT} (h : t σ H fun c H1 => if c = true then QB true H1 else u σ H1 QB) : tOr t u σ H QB := h
theorem rd_and {t u : TT} (h : t σ H fun c H1 => if c = true then u σ H1 QB else QB false H1) : tAnd t u σ H QB := h
theorem rd_not {t : TT} (h : t σ H fun c H1 => QB (!c) H1) : tNot t σ H QB := h
theorem rd_test {t : TE} (h : t σ H fun x H' => ∃ k, x = .bl k ∧ QB k H') : tTest t σ H QB := h
theorem rd_tb {t : TE} (h : t σ H fun x H' => ∃ k, x = .bl k ∧ QB k H') : tB t σ H QB := h
theorem rd_yes  (h : QB true H) : tYes σ H QB := h
theorem rd_nil  (h : QA [] H) : tNil σ H QA := h
theorem rd_cons {ta : TE} {tr : TA} (h : ta σ H fun x H1 => tr σ H1 fun xs H2 => QA (x :: xs) H2) : tCons ta tr σ H QA := h
theorem rd_nopart  (h : QO none H) : tNoPart σ H QO := h
theorem rd_part {t : TE} (h : t σ H fun x H1 => ∃ i, x = .int i ∧ QO (some i) H1) : tPart t σ H QO := h
theorem rd_gnil (h : QG σ H) : gNil [] σ H QG := ⟨rfl, h⟩
theorem rd_gcons {t : TG} {u : TGs} {v : V} {r : List V} (h : t v σ H fun σ' H' => u r σ' H' QG) : gCons t u (v :: r) σ H QG := ⟨v, r, rfl, h⟩
theorem rd_gtup {K : PySem.W.Frag} {n : Nat} {t : TGs} {a : Addr} {xs : List V} (hs : SqT K H a xs) (hl : xs.length = n) (h : t xs σ H QG) : gTup K n t (.ref a) σ H QG := ⟨a, xs, rfl, hs, hl, h⟩
theorem rd_gsub {to ti : TE} {t : TSet} {v : V} (h : to σ H fun o H1 => ti σ H1 fun i H2 => t o i v H2 fun H3 => QG σ H3) : gSub to ti t v σ H QG := h
theorem rd_g0 {v : V} { y : Option V} {r : List (Option V)} (h : QG (some v :: r) H) : gName 0 v (y :: r) H QG := h
theorem rd_g1 {v : V} {x0 y : Option V} {r : List (Option V)} (h : QG (x0 :: some v :: r) H) : gName 1 v (x0 :: y :: r) H QG := h
theorem rd_g2 {v : V} {x0 x1 y : Option V} {r : List (Option V)} (h : QG (x0 :: x1 :: some v :: r) H) : gName 2 v (x0 :: x1 :: y :: r) H QG := h
theorem rd_g3 {v : V} {x0 x1 x2 y : Option V} {r : List (Option V)} (h : QG (x0 :: x1 :: x2 :: some v :: r) H) : gName 3 v (x0 :: x1 :: x2 :: y :: r) H QG := h
theorem rd_g4 {v : V} {x0 x1 x2 x3 y : Option V} {r : List (Option V)} (h : QG (x0 :: x1 :: x2 :: x3 :: some v :: r) H) : gName 4 v (x0 :: x1 :: x2 :: x3 :: y :: r) H QG := h
theorem rd_g5 {v : V} {x0 x1 x2 x3 x4 y : Option V} {r : List (Option V)} (h : QG (x0 :: x1 :: x2 :: x3 :: x4 :: some v :: r) H) : gName 5 v (x0 :: x1 :: x2 :: x3 :: x4 :: y :: r) H QG := h
theorem rd_g6 {v : V} {x0 x1 x2 x3 x4 x5 y : Option V} {r : List (Option V)} (h : QG (x0 :: x1 :: x2 :: x3 :: x4 :: x5 :: some v :: r) H) : gName 6 v (x0 :: x1 :: x2 :: x3 :: x4 :: x5 :: y :: r) H QG := h
theorem rd_g7 {v : V} {x0 x1 x2 x3 x4 x5 x6 y : Option V} {r : List (Option V)} (h : QG (x0 :: x1 :: x2 :: x3 :: x4 :: x5 :: x6 :: some v :: r) H) : gName 7 v (x0 :: x1 :: x2 :: x3 :: x4 :: x5 :: x6 :: y :: r) H QG := h
theorem rd_g8 {v : V} {x0 x1 x2 x3 x4 x5 x6 x7 y : Option V} {r : List (Option V)} (h : QG (x0 :: x1 :: x2 :: x3 :: x4 :: x5 :: x6 :: x7 :: some v :: r) H) : gName 8 v (x0 :: x1 :: x2 :: x3 :: x4 :: x5 :: x6 :: x7 :: y :: r) H QG := h
theorem rd_g9 {v : V} {x0 x1 x2 x3 x4 x5 x6 x7 x8 y : Option V} {r : List (Option V)} (h : QG (x0 :: x1 :: x2 :: x3 :: x4 :: x5 :: x6 :: x7 :: x8 :: some v :: r) H) : gName 9 v (x0 :: x1 :: x2 :: x3 :: x4 :: x5 :: x6 :: x7 :: x8 :: y :: r) H QG := h
theorem rd_g10 {v : V} {x0 x1 x2 x3 x4 x5 x6 x7 x8 x9 y : Option V} {r : List (Option V)} (h : QG (x0 :: x1 :: x2 :: x3 :: x4 :: x5 :: x6 :: x7 :: x8 :: x9 :: some v :: r) H) : gName 10 v (x0 :: x1 :: x2 :: x3 :: x4 :: x5 :: x6 :: x7 :: x8 :: x9 :: y :: r) H QG := h
theorem rd_g11 {v : V} {x0 x1 x2 x3 x4 x5 x6 x7 x8 x9 x10 y : Option V} {r : List (Option V)} (h : QG (x0 :: x1 :: x2 :: x3 :: x4 :: x5 :: x6 :: x7 :: x8 :: x9 :: x10 :: some v :: r) H) : gName 11 v (x0 :: x1 :: x2 :: x3 :: x4 :: x5 :: x6 :: x7 :: x8 :: x9 :: x10 :: y :: r) H QG := h
theorem rd_g12 {v : V} {x0 x1 x2 x3 x4 x5 x6 x7 x8 x9 x10 x11 y : Option V} {r : List (Option V)} (h : QG (x0 :: x1 :: x2 :: x3 :: x4 :: x5 :: x6 :: x7 :: x8 :: x9 :: x10 :: x11 :: some v :: r) H) : gName 12 v (x0 :: x1 :: x2 :: x3 :: x4 :: x5 :: x6 :: x7 :: x8 :: x9 :: x10 :: x11 :: y :: r) H QG := h
theorem rd_g13 {v : V} {x0 x1 x2 x3 x4 x5 x6 x7 x8 x9 x10 x11 x12 y : Option V} {r : List (Option V)} (h : QG (x0 :: x1 :: x2 :: x3 :: x4 :: x5 :: x6 :: x7 :: x8 :: x9 :: x10 :: x11 :: x12 :: some v :: r) H) : gName 13 v (x0 :: x1 :: x2 :: x3 :: x4 :: x5 :: x6 :: x7 :: x8 :: x9 :: x10 :: x11 :: x12 :: y :: r) H QG := h
theorem rd_g14 {v : V} {x0 x1 x2 x3 x4 x5 x6 x7 x8 x9 x10 x11 x12 x13 y : Option V} {r : List (Option V)} (h : QG (x0 :: x1 :: x2 :: x3 :: x4 :: x5 :: x6 :: x7 :: x8 :: x9 :: x10 :: x11 :: x12 :: x13 :: some v :: r) H) : gName 14 v (x0 :: x1 :: x2 :: x3 :: x4 :: x5 :: x6 :: x7 :: x8 :: x9 :: x10 :: x11 :: x12 :: x13 :: y :: r) H QG := h
theorem rd_g15 {v : V} {x0 x1 x2 x3 x4 x5 x6 x7 x8 x9 x10 x11 x12 x13 x14 y : Option V} {r : List (Option V)} (h : QG (x0 :: x1 :: x2 :: x3 :: x4 :: x5 :: x6 :: x7 :: x8 :: x9 :: x10 :: x11 :: x12 :: x13 :: x14 :: some v :: r) H) : gName 15 v (x0 :: x1 :: x2 :: x3 :: x4 :: x5 :: x6 :: x7 :: x8 :: x9 :: x10 :: x11 :: x12 :: x13 :: x14 :: y :: r) H QG := h
theorem rd_g16 {v : V} {x0 x1 x2 x3 x4 x5 x6 x7 x8 x9 x10 x11 x12 x13 x14 x15 y : Option V} {r : List (Option V)} (h : QG (x0 :: x1 :: x2 :: x3 :: x4 :: x5 :: x6 :: x7 :: x8 :: x9 :: x10 :: x11 :: x12 :: x13 :: x14 :: x15 :: some v :: r) H) : gName 16 v (x0 :: x1 :: x2 :: x3 :: x4 :: x5 :: x6 :: x7 :: x8 :: x9 :: x10 :: x11 :: x12 :: x13 :: x14 :: x15 :: y :: r) H QG := h
theorem rd_g17 {v : V} {x0 x1 x2 x3 x4 x5 x6 x7 x8 x9 x10 x11 x12 x13 x14 x15 x16 y : Option V} {r : List (Option V)} (h : QG (x0 :: x1 :: x2 :: x3 :: x4 :: x5 :: x6 :: x7 :: x8 :: x9 :: x10 :: x11 :: x12 :: x13 :: x14 :: x15 :: x16 :: some v :: r) H) : gName 17 v (x0 :: x1 :: x2 :: x3 :: x4 :: x5 :: x6 :: x7 :: x8 :: x9 :: x10 :: x11 :: x12 :: x13 :: x14 :: x15 :: x16 :: y :: r) H QG := h
theorem rd_g18 {v : V} {x0 x1 x2 x3 x4 x5 x6 x7 x8 x9 x10 x11 x12 x13 x14 x15 x16 x17 y : Option V} {r : List (Option V)} (h : QG (x0 :: x1 :: x2 :: x3 :: x4 :: x5 :: x6 :: x7 :: x8 :: x9 :: x10 :: x11 :: x12 :: x13 :: x14 :: x15 :: x16 :: x17 :: some v :: r) H) : gName 18 v (x0 :: x1 :: x2 :: x3 :: x4 :: x5 :: x6 :: x7 :: x8 :: x9 :: x10 :: x11 :: x12 :: x13 :: x14 :: x15 :: x16 :: x17 :: y :: r) H QG := h
theorem rd_g19 {v : V} {x0 x1 x2 x3 x4 x5 x6 x7 x8 x9 x10 x11 x12 x13 x14 x15 x16 x17 x18 y : Option V} {r : List (Option V)} (h : QG (x0 :: x1 :: x2 :: x3 :: x4 :: x5 :: x6 :: x7 :: x8 :: x9 :: x10 :: x11 :: x12 :: x13 :: x14 :: x15 :: x16 :: x17 :: x18 :: some v :: r) H) : gName 19 v (x0 :: x1 :: x2 :: x3 :: x4 :: x5 :: x6 :: x7 :: x8 :: x9 :: x10 :: x11 :: x12 :: x13 :: x14 :: x15 :: x16 :: x17 :: x18 :: y :: r) H QG := h
theorem rd_g20 {v : V} {x0 x1 x2 x3 x4 x5 x6 x7 x8 x9 x10 x11 x12 x13 x14 x15 x16 x17 x18 x19 y : Option V} {r : List (Option V)} (h : QG (x0 :: x1 :: x2 :: x3 :: x4 :: x5 :: x6 :: x7 :: x8 :: x9 :: x10 :: x11 :: x12 :: x13 :: x14 :: x15 :: x16 :: x17 :: x18 :: x19 :: some v :: r) H) : gName 20 v (x0 :: x1 :: x2 :: x3 :: x4 :: x5 :: x6 :: x7 :: x8 :: x9 :: x10 :: x11 :: x12 :: x13 :: x14 :: x15 :: x16 :: x17 :: x18 :: x19 :: y :: r) H QG := h
theorem rd_g21 {v : V} {x0 x1 x2 x3 x4 x5 x6 x7 x8 x9 x10 x11 x12 x13 x14 x15 x16 x17 x18 x19 x20 y : Option V} {r : List (Option V)} (h : QG (x0 :: x1 :: x2 :: x3 :: x4 :: x5 :: x6 :: x7 :: x8 :: x9 :: x10 :: x11 :: x12 :: x13 :: x14 :: x15 :: x16 :: x17 :: x18 :: x19 :: x20 :: some v :: r) H) : gName 21 v (x0 :: x1 :: x2 :: x3 :: x4 :: x5 :: x6 :: x7 :: x8 :: x9 :: x10 :: x11 :: x12 :: x13 :: x14 :: x15 :: x16 :: x17 :: x18 :: x19 :: x20 :: y :: r) H QG := h
theorem rd_g22 {v : V} {x0 x1 x2 x3 x4 x5 x6 x7 x8 x9 x10 x11 x12 x13 x14 x15 x16 x17 x18 x19 x20 x21 y : Option V} {r : List (Option V)} (h : QG (x0 :: x1 :: x2 :: x3 :: x4 :: x5 :: x6 :: x7 :: x8 :: x9 :: x10 :: x11 :: x12 :: x13 :: x14 :: x15 :: x16 :: x17 :: x18 :: x19 :: x20 :: x21 :: some v :: r) H) : gName 22 v (x0 :: x1 :: x2 :: x3 :: x4 :: x5 :: x6 :: x7 :: x8 :: x9 :: x10 :: x11 :: x12 :: x13 :: x14 :: x15 :: x16 :: x17 :: x18 :: x19 :: x20 :: x21 :: y :: r) H QG := h
theorem rd_g23 {v : V} {x0 x1 x2 x3 x4 x5 x6 x7 x8 x9 x10 x11 x12 x13 x14 x15 x16 x17 x18 x19 x20 x21 x22 y : Option V} {r : List (Option V)} (h : QG (x0 :: x1 :: x2 :: x3 :: x4 :: x5 :: x6 :: x7 :: x8 :: x9 :: x10 :: x11 :: x12 :: x13 :: x14 :: x15 :: x16 :: x17 :: x18 :: x19 :: x20 :: x21 :: x22 :: some v :: r) H) : gName 23 v (x0 :: x1 :: x2 :: x3 :: x4 :: x5 :: x6 :: x7 :: x8 :: x9 :: x10 :: x11 :: x12 :: x13 :: x14 :: x15 :: x16 :: x17 :: x18 :: x19 :: x20 :: x21 :: x22 :: y :: r) H QG := h
theorem rd_v0 {v : V} {r : List (Option V)} (h : Q v H) : tVar 0 (some v :: r) H Q := ⟨v, rfl, h⟩
theorem rd_v1 {v : V} {x0 : Option V} {r : List (Option V)} (h : Q v H) : tVar 1 (x0 :: some v :: r) H Q := ⟨v, rfl, h⟩
theorem rd_v2 {v : V} {x0 x1 : Option V} {r : List (Option V)} (h : Q v H) : tVar 2 (x0 :: x1 :: some v :: r) H Q := ⟨v, rfl, h⟩
theorem rd_v3 {v : V} {x0 x1 x2 : Option V} {r : List (Option V)} (h : Q v H) : tVar 3 (x0 :: x1 :: x2 :: some v :: r) H Q := ⟨v, rfl, h⟩
theorem rd_v4 {v : V} {x0 x1 x2 x3 : Option V} {r : List (Option V)} (h : Q v H) : tVar 4 (x0 :: x1 :: x2 :: x3 :: some v :: r) H Q := ⟨v, rfl, h⟩
theorem rd_v5 {v : V} {x0 x1 x2 x3 x4 : Option V} {r : List (Option V)} (h : Q v H) : tVar 5 (x0 :: x1 :: x2 :: x3 :: x4 :: some v :: r) H Q := ⟨v, rfl, h⟩
theorem rd_v6 {v : V} {x0 x1 x2 x3 x4 x5 : Option V} {r : List (Option V)} (h : Q v H) : tVar 6 (x0 :: x1 :: x2 :: x3 :: x4 :: x5 :: some v :: r) H Q := ⟨v, rfl, h⟩
theorem rd_v7 {v : V} {x0 x1 x2 x3 x4 x5 x6 : Option V} {r : List (Option V)} (h : Q v H) : tVar 7 (x0 :: x1 :: x2 :: x3 :: x4 :: x5 :: x6 :: some v :: r) H Q := ⟨v, rfl, h⟩
theorem rd_v8 {v : V} {x0 x1 x2 x3 x4 x5 x6 x7 : Option V} {r : List (Option V)} (h : Q v H) : tVar 8 (x0 :: x1 :: x2 :: x3 :: x4 :: x5 :: x6 :: x7 :: some v :: r) H Q := ⟨v, rfl, h⟩
theorem rd_v9 {v : V} {x0 x1 x2 x3 x4 x5 x6 x7 x8 : Option V} {r : List (Option V)} (h : Q v H) : tVar 9 (x0 :: x1 :: x2 :: x3 :: x4 :: x5 :: x6 :: x7 :: x8 :: some v :: r) H Q := ⟨v, rfl, h⟩
theorem rd_v10 {v : V} {x0 x1 x2 x3 x4 x5 x6 x7 x8 x9 : Option V} {r : List (Option V)} (h : Q v H) : tVar 10 (x0 :: x1 :: x2 :: x3 :: x4 :: x5 :: x6 :: x7 :: x8 :: x9 :: some v :: r) H Q := ⟨v, rfl, h⟩
theorem rd_v11 {v : V} {x0 x1 x2 x3 x4 x5 x6 x7 x8 x9 x10 : Option V} {r : List (Option V)} (h : Q v H) : tVar 11 (x0 :: x1 :: x2 :: x3 :: x4 :: x5 :: x6 :: x7 :: x8 :: x9 :: x10 :: some v :: r) H Q := ⟨v, rfl, h⟩
theorem rd_v12 {v : V} {x0 x1 x2 x3 x4 x5 x6 x7 x8 x9 x10 x11 : Option V} {r : List (Option V)} (h : Q v H) : tVar 12 (x0 :: x1 :: x2 :: x3 :: x4 :: x5 :: x6 :: x7 :: x8 :: x9 :: x10 :: x11 :: some v :: r) H Q := ⟨v, rfl, h⟩
theorem rd_v13 {v : V} {x0 x1 x2 x3 x4 x5 x6 x7 x8 x9 x10 x11 x12 : Option V} {r : List (Option V)} (h : Q v H) : tVar 13 (x0 :: x1 :: x2 :: x3 :: x4 :: x5 :: x6 :: x7 :: x8 :: x9 :: x10 :: x11 :: x12 :: some v :: r) H Q := ⟨v, rfl, h⟩
theorem rd_v14 {v : V} {x0 x1 x2 x3 x4 x5 x6 x7 x8 x9 x10 x11 x12 x13 : Option V} {r : List (Option V)} (h : Q v H) : tVar 14 (x0 :: x1 :: x2 :: x3 :: x4 :: x5 :: x6 :: x7 :: x8 :: x9 :: x10 :: x11 :: x12 :: x13 :: some v :: r) H Q := ⟨v, rfl, h⟩
theorem rd_v15 {v : V} {x0 x1 x2 x3 x4 x5 x6 x7 x8 x9 x10 x11 x12 x13 x14 : Option V} {r : List (Option V)} (h : Q v H) : tVar 15 (x0 :: x1 :: x2 :: x3 :: x4 :: x5 :: x6 :: x7 :: x8 :: x9 :: x10 :: x11 :: x12 :: x13 :: x14 :: some v :: r) H Q := ⟨v, rfl, h⟩
theorem rd_v16 {v : V} {x0 x1 x2 x3 x4 x5 x6 x7 x8 x9 x10 x11 x12 x13 x14 x15 : Option V} {r : List (Option V)} (h : Q v H) : tVar 16 (x0 :: x1 :: x2 :: x3 :: x4 :: x5 :: x6 :: x7 :: x8 :: x9 :: x10 :: x11 :: x12 :: x13 :: x14 :: x15 :: some v :: r) H Q := ⟨v, rfl, h⟩
theorem rd_v17 {v : V} {x0 x1 x2 x3 x4 x5 x6 x7 x8 x9 x10 x11 x12 x13 x14 x15 x16 : Option V} {r : List (Option V)} (h : Q v H) : tVar 17 (x0 :: x1 :: x2 :: x3 :: x4 :: x5 :: x6 :: x7 :: x8 :: x9 :: x10 :: x11 :: x12 :: x13 :: x14 :: x15 :: x16 :: some v :: r) H Q := ⟨v, rfl, h⟩
theorem rd_v18 {v : V} {x0 x1 x2 x3 x4 x5 x6 x7 x8 x9 x10 x11 x12 x13 x14 x15 x16 x17 : Option V} {r : List (Option V)} (h : Q v H) : tVar 18 (x0 :: x1 :: x2 :: x3 :: x4 :: x5 :: x6 :: x7 :: x8 :: x9 :: x10 :: x11 :: x12 :: x13 :: x14 :: x15 :: x16 :: x17 :: some v :: r) H Q := ⟨v, rfl, h⟩
theorem rd_v19 {v : V} {x0 x1 x2 x3 x4 x5 x6 x7 x8 x9 x10 x11 x12 x13 x14 x15 x16 x17 x18 : Option V} {r : List (Option V)} (h : Q v H) : tVar 19 (x0 :: x1 :: x2 :: x3 :: x4 :: x5 :: x6 :: x7 :: x8 :: x9 :: x10 :: x11 :: x12 :: x13 :: x14 :: x15 :: x16 :: x17 :: x18 :: some v :: r) H Q := ⟨v, rfl, h⟩
theorem rd_v20 {v : V} {x0 x1 x2 x3 x4 x5 x6 x7 x8 x9 x10 x11 x12 x13 x14 x15 x16 x17 x18 x19 : Option V} {r : List (Option V)} (h : Q v H) : tVar 20 (x0 :: x1 :: x2 :: x3 :: x4 :: x5 :: x6 :: x7 :: x8 :: x9 :: x10 :: x11 :: x12 :: x13 :: x14 :: x15 :: x16 :: x17 :: x18 :: x19 :: some v :: r) H Q := ⟨v, rfl, h⟩
theorem rd_v21 {v : V} {x0 x1 x2 x3 x4 x5 x6 x7 x8 x9 x10 x11 x12 x13 x14 x15 x16 x17 x18 x19 x20 : Option V} {r : List (Option V)} (h : Q v H) : tVar 21 (x0 :: x1 :: x2 :: x3 :: x4 :: x5 :: x6 :: x7 :: x8 :: x9 :: x10 :: x11 :: x12 :: x13 :: x14 :: x15 :: x16 :: x17 :: x18 :: x19 :: x20 :: some v :: r) H Q := ⟨v, rfl, h⟩
theorem rd_v22 {v : V} {x0 x1 x2 x3 x4 x5 x6 x7 x8 x9 x10 x11 x12 x13 x14 x15 x16 x17 x18 x19 x20 x21 : Option V} {r : List (Option V)} (h : Q v H) : tVar 22 (x0 :: x1 :: x2 :: x3 :: x4 :: x5 :: x6 :: x7 :: x8 :: x9 :: x10 :: x11 :: x12 :: x13 :: x14 :: x15 :: x16 :: x17 :: x18 :: x19 :: x20 :: x21 :: some v :: r) H Q := ⟨v, rfl, h⟩
theorem rd_v23 {v : V} {x0 x1 x2 x3 x4 x5 x6 x7 x8 x9 x10 x11 x12 x13 x14 x15 x16 x17 x18 x19 x20 x21 x22 : Option V} {r : List (Option V)} (h : Q v H) : tVar 23 (x0 :: x1 :: x2 :: x3 :: x4 :: x5 :: x6 :: x7 :: x8 :: x9 :: x10 :: x11 :: x12 :: x13 :: x14 :: x15 :: x16 :: x17 :: x18 :: x19 :: x20 :: x21 :: x22 :: some v :: r) H Q := ⟨v, rfl, h⟩
theorem rd_start {t : TS} {N : List Str} {vs : List V} {σ' : L2.St} (e : start N vs = σ') (h : t D σ' H) : t D (start N vs) H := by
  rw [e]
  exact h
theorem rd_bl {c : Bool} {P : Bool → Prop} (h : P c) : ∃ k, V.bl c = .bl k ∧ P k := ⟨c, rfl, h⟩
theorem rd_ite {b : Bool} {A B : Prop} (h1 : b = true → A) (h2 : b = false → B) : if b = true then A else B := by
  cases b with
  | true => exact iteT (h1 rfl)
  | false => exact iteF (h2 rfl)
theorem rd_conj {A B : Prop} (h1 : A) (h2 : B) : A ∧ B := ⟨h1, h2⟩
theorem rd_intE {i : Int} {P : Int → Prop} (h : P i) : ∃ k, V.int i = .int k ∧ P k := ⟨i, rfl, h⟩
theorem rd_strE {i : Str} {P : Prop} (h : P) : (∃ a, V.str i = .str a) ∧ P := ⟨⟨i, rfl⟩, h⟩
/-! ### operations by values -/
section
variable {K : PySem.W.Frag} {i j : Int} {a b : Str} {p : Addr}
theorem rd_I0 {g : Int → Int → V} (h : Q (g i j) H) : rI0 g (.int i) (.int j) H Q := ⟨i, j, rfl, rfl, h⟩
theorem rd_I {C : Int → Int → Prop} {g : Int → Int → V} (hc : C i j) (h : Q (g i j) H) : rI C g (.int i) (.int j) H Q := ⟨i, j, rfl, rfl, hc, h⟩
theorem rd_addI (h : Q (.int (i + j)) H) : rAddU K (.int i) (.int j) H Q := h
theorem rd_addS (hl : a.length + b.length ≤ sizeLine) (h : Q (.str (a ++ b)) H) : rAddU K (.str a) (.str b) H Q := ⟨hl, h⟩
theorem rd_addL {l m : Addr} {xs zs : List V} (h1 : SqL K H l xs) (h2 : SqL K H m zs) (hl : xs.length + zs.length ≤ sizeLine) (h : Nw H (.lst (xs ++ zs)) Q) : rAddU K (.ref l) (.ref m) H Q := .inl ⟨xs, zs, h1, h2, hl, h⟩
theorem rd_mulI (hc : CMulW i j ∨ CMul i j) (h : Q (.int (i * j)) H) : rMulU (.int i) (.int j) H Q := ⟨hc, h⟩
theorem rd_mulL {xs : List V} (h1 : H p = some (.lst xs)) (h2 : -(2 ^ 63) ≤ i) (h3 : i < 2 ^ 63) (h4 : xs.length * i.toNat ≤ sizeLine) (h : Nw H (.lst (List.replicate i.toNat xs).flatten) Q) : rMulU (.ref p) (.int i) H Q := ⟨xs, h1, h2, h3, h4, h⟩
theorem rd_eqS {x y : V} (h1 : scal x y = true) (h : Q (.bl (decide (x = y))) H) : rEqU K x y H Q := .inl ⟨h1, h⟩
theorem rd_neS {x y : V} (h1 : scal x y = true) (h : Q (.bl (!decide (x = y))) H) : rNeU K x y H Q := .inl ⟨h1, h⟩
theorem rd_eqD {x y : V} {d e : PyData} (h1 : Dp K H x d) (h2 : Dp K H y e) (s1 : SeqAt.shaped d = true) (s2 : SeqAt.shaped e = true) (h : Q (.bl (PyData.eqv d e)) H) : rEqU K x y H Q := .inr ⟨d, e, h1, h2, s1, s2, h⟩
theorem rd_neD {x y : V} {d e : PyData} (h1 : Dp K H x d) (h2 : Dp K H y e) (s1 : SeqAt.shaped d = true) (s2 : SeqAt.shaped e = true) (h : Q (.bl (!PyData.eqv d e)) H) : rNeU K x y H Q := .inr ⟨d, e, h1, h2, s1, s2, h⟩
theorem rd_isN {x : V} (h : Q (.bl (decide (x = .non))) H) : (fun x y H Q => y = V.non ∧ Q (.bl (decide (x = .non))) H : R2) x .non H Q := ⟨rfl, h⟩
theorem rd_inS {c : Nat} {z : Str} (h : Q (.bl (decide (c ∈ z.cps.toList))) H) : rInU K false (.str ⟨#[c]⟩) (.str z) H Q := ⟨c, rfl, h⟩
theorem rd_ninS {c : Nat} {z : Str} (h : Q (.bl (!decide (c ∈ z.cps.toList))) H) : rInU K true (.str ⟨#[c]⟩) (.str z) H Q := ⟨c, rfl, h⟩
theorem rd_inQ {neg : Bool} {x : V} {xs : List V} (h1 : SqL K H p xs ∨ SqT K H p xs) (h2 : flatV x = true) (h3 : xs.all flatV = true) (h : Q (.bl (if neg then !inV x xs else inV x xs)) H) : rInU K neg x (.ref p) H Q := ⟨xs, h1, h2, h3, h⟩
theorem rd_lenS (hl : a.length ≤ sizeLine) (h : Q (.int a.length) H) : rLenU K [.str a] H Q := ⟨hl, h⟩
theorem rd_lenL {ys : List V} (h1 : SqL K H p ys) (h : Q (.int ys.length) H) : rLenU K [.ref p] H Q := .inl ⟨ys, .inl h1, h⟩
theorem rd_lenT {ys : List V} (h1 : SqT K H p ys) (h : Q (.int ys.length) H) : rLenU K [.ref p] H Q := .inl ⟨ys, .inr h1, h⟩
theorem rd_listL {ys : List V} (h1 : SqL K H p ys) (h : Nw H (.lst ys) Q) : rListU K [.ref p] H Q := ⟨ys, .inl h1, h⟩
theorem rd_listT {ys : List V} (h1 : SqT K H p ys) (h : Nw H (.lst ys) Q) : rListU K [.ref p] H Q := ⟨ys, .inr h1, h⟩
theorem rd_tupL {ys : List V} (h1 : SqL K H p ys) (h : Nw H (.tup ys) Q) : rTupleU K [.ref p] H Q := .inl ⟨ys, h1, h⟩
theorem rd_tupT {ys : List V} (h1 : SqT K H p ys) (h : Q (.ref p) H) : rTupleU K [.ref p] H Q := .inr ⟨ys, h1, h⟩
theorem rd_intI (h : Q (.int i) H) : rInt1 [.int i] H Q := h
theorem rd_intB {k : Bool} (h : Q (.int (if k then 1 else 0)) H) : rInt1 [.bl k] H Q := h
theorem rd_ixL {xs : List V} {v : V} (h1 : SqL K H p xs) (h2 : atI xs i = some v) (h : Q v H) : rIxU K (.ref p) (.int i) H Q := ⟨xs, v, .inl h1, h2, h⟩
theorem rd_ixT {xs : List V} {v : V} (h1 : SqT K H p xs) (h2 : atI xs i = some v) (h : Q v H) : rIxU K (.ref p) (.int i) H Q := ⟨xs, v, .inr h1, h2, h⟩
theorem rd_ixS {c : Nat} (h1 : a.length ≤ sizeLine) (h2 : atI a.cps.toList i = some c) (h : Q (.str ⟨#[c]⟩) H) : rIxU K (.str a) (.int i) H Q := ⟨c, h1, h2, h⟩
theorem rd_slL {xs : List V} {lo hi : Option Int} (h1 : SqL K H p xs) (h : Nw H (.lst (cutV xs lo hi)) Q) : rSlU K (.ref p) lo hi H Q := ⟨xs, h1, h⟩
theorem rd_slS {lo hi : Option Int} (h1 : a.length ≤ sizeLine) (h : Q (.str (cutS a lo hi)) H) : rSlU K (.str a) lo hi H Q := ⟨h1, h⟩
theorem rd_fldr {f : Str} {C dx : Addr} {fs : List (Str × V)} {v : V} (h1 : H p = some (.ins C dx fs)) (h2 : Cls K C) (h3 : NoAttr K C f) (h4 : fs.lookup f = some v) (h : Q v H) : FldOf K f (.ref p) H Q := ⟨p, C, dx, fs, v, rfl, h1, h2, h3, h4, h⟩
theorem rd_iseq {te : TE} {R : It → Hp → Prop} (h : te σ H fun x H1 => SeqIt K x H1 R) : iSeqU K te σ H R := h
theorem rd_itL {R : It → Hp → Prop} {xs : List V} (h1 : SqL K H p xs) (h : R (Itl K p) H) : SeqIt K (.ref p) H R := .inl ⟨xs, h1, h⟩
theorem rd_itT {R : It → Hp → Prop} {xs : List V} (h1 : SqT K H p xs) (h : R (Itt K p) H) : SeqIt K (.ref p) H R := .inr ⟨xs, h1, h⟩
theorem rd_itS {R : It → Hp → Prop} (h : R (Its a) H) : SeqIt K (.str a) H R := h
theorem rd_all {bs : List Bool} (h1 : SqL K H p (bs.map V.bl)) (h : Q (.bl (bs.all id)) H) : rAll K [.ref p] H Q := ⟨p, bs, rfl, h1, h⟩
end
end
/-! ### fields of an instance -/
theorem lk_hit {f : Str} {v : V} {fs : List (Str × V)} : (putF f v fs).lookup f = some v := by rw [lookup_putF, if_pos rfl]
theorem lk_miss {f g : Str} {v : V} {fs : List (Str × V)} {r : Option V} (h : ¬ g = f) (e : fs.lookup g = r) : (putF f v fs).lookup g = r := by rw [lookup_putF, if_neg h, e]
theorem lk_nil {g : Str} : ([] : List (Str × V)).lookup g = none := rfl
theorem len_putF {f : Str} {v : V} : ∀ {fs : List (Str × V)} {n : Nat}, fs.length ≤ n → (putF f v fs).length ≤ n + 1
  | [], n, _ => by show 1 ≤ n + 1; omega
  | (g, x) :: r, n, h => by
    show (if g = f then (g, v) :: r else (g, x) :: putF f v r).length ≤ n + 1
    have h : r.length + 1 ≤ n := h
    by_cases e : g = f
    · rw [if_pos e, List.length_cons]
      omega
    · rw [if_neg e, List.length_cons]
      have ih := len_putF (f := f) (v := v) (fs := r) (n := n - 1) (by omega)
      omega
/-! ### data of scalars and tuples -/
mutual
inductive Dt (H : Hp) : V → PyData → Prop
  | non : Dt H .non .none
  | bl (b : Bool) : Dt H (.bl b) (.bool b)
  | int (i : Int) : Dt H (.int i) (.int i)
  | str (x : Str) : Dt H (.str x) (.str x)
  | tup {a : Addr} {xs : List V} {ds : List PyData} : H a = some (.tup xs) → DtAll H xs ds → Dt H (.ref a) (.tuple ds)
inductive DtAll (H : Hp) : List V → List PyData → Prop
  | nil : DtAll H [] []
  | cons {v : V} {vs : List V} {d : PyData} {ds : List PyData} : Dt H v d → DtAll H vs ds → DtAll H (v :: vs) (d :: ds)
end
/-- tuples stand -/
def KeepT (H H' : Hp) : Prop := ∀ a xs, H a = some (.tup xs) → H' a = some (.tup xs)
theorem KeepT.of {H H' : Hp} (s : Same H H') : KeepT H H' := fun a xs h => s a _ h
theorem KeepT.refl (H : Hp) : KeepT H H := fun _ _ h => h
theorem KeepT.trans {H H1 H2 : Hp} (a : KeepT H H1) (b : KeepT H1 H2) : KeepT H H2 := fun x xs h => b x xs (a x xs h)
/-- an object that is no tuple is written -/
theorem KeepT.up {H : Hp} {p : Addr} {o o' : HO} (h : H p = some o) (n : ∀ xs, o ≠ .tup xs) : KeepT H (upd H p o') := fun a xs e => by
  have ne : a ≠ p := fun z => by
    rw [z, h] at e
    exact n xs (Option.some.inj e)
  rw [upd_ne ne]
  exact e
mutual
theorem Dt.mono {H H' : Hp} (k : KeepT H H') : ∀ {v : V} {d : PyData}, Dt H v d → Dt H' v d
  | _, _, .non => .non
  | _, _, .bl b => .bl b
  | _, _, .int i => .int i
  | _, _, .str x => .str x
  | _, _, .tup h t => .tup (k _ _ h) (DtAll.mono k t)
theorem DtAll.mono {H H' : Hp} (k : KeepT H H') : ∀ {vs : List V} {ds : List PyData}, DtAll H vs ds → DtAll H' vs ds
  | _, _, .nil => .nil
  | _, _, .cons h t => .cons (Dt.mono k h) (DtAll.mono k t)
end
mutual
theorem Dt.dp {K : PySem.W.Frag} {H : Hp} : ∀ {v : V} {d : PyData}, Dt H v d → Dp K H v d
  | _, _, .non => .non
  | _, _, .bl b => .bl b
  | _, _, .int i => .int i
  | _, _, .str x => .str x
  | _, _, .tup h t => .tup (.inl (.inl h)) (DtAll.dp t)
theorem DtAll.dp {K : PySem.W.Frag} {H : Hp} : ∀ {vs : List V} {ds : List PyData}, DtAll H vs ds → DpAll K H vs ds
  | _, _, .nil => .nil
  | _, _, .cons h t => .cons (Dt.dp h) (DtAll.dp t)
end
theorem DtAll.length {H : Hp} : ∀ {vs : List V} {ds : List PyData}, DtAll H vs ds → vs.length = ds.length
  | _, _, .nil => rfl
  | _, _, .cons _ t => congrArg Nat.succ (DtAll.length t)
theorem DtAll.append {H : Hp} : ∀ {vs ws : List V} {ds es : List PyData}, DtAll H vs ds → DtAll H ws es → DtAll H (vs ++ ws) (ds ++ es)
  | _, _, _, _, .nil, b => b
  | _, _, _, _, .cons h t, b => .cons h (DtAll.append t b)
theorem DtAll.get {H : Hp} : ∀ {vs : List V} {ds : List PyData} {i : Nat} {v : V}, DtAll H vs ds → vs[i]? = some v → ∃ d, ds[i]? = some d ∧ Dt H v d
  | _, _, 0, _, .cons h _, e => ⟨_, rfl, by simp at e; subst e; exact h⟩
  | _, _, i + 1, v, .cons _ t, e => by
    obtain ⟨d, h1, h2⟩ := DtAll.get (i := i) (v := v) t (by simpa using e)
    exact ⟨d, by simpa using h1, h2⟩
  | _, _, _, _, .nil, e => by simp at e
theorem Dt.str_inv {H : Hp} {v : V} {x : Str} (h : Dt H v (.str x)) : v = .str x := by
  cases h
  rfl
theorem Dt.int_inv {H : Hp} {v : V} {x : Int} (h : Dt H v (.int x)) : v = .int x := by
  cases h
  rfl
theorem Dt.none_inv {H : Hp} {v : V} (h : Dt H v .none) : v = .non := by
  cases h
  rfl
theorem Dt.tup_inv {H : Hp} {v : V} {ds : List PyData} (h : Dt H v (.tuple ds)) : ∃ a xs, v = .ref a ∧ H a = some (.tup xs) ∧ DtAll H xs ds := by
  cases h with
  | tup h t => exact ⟨_, _, rfl, h, t⟩
theorem DtAll.nil_inv {H : Hp} {vs : List V} (h : DtAll H vs []) : vs = [] := by
  cases h
  rfl
theorem DtAll.cons_inv {H : Hp} {vs : List V} {d : PyData} {ds : List PyData} (h : DtAll H vs (d :: ds)) : ∃ v r, vs = v :: r ∧ Dt H v d ∧ DtAll H r ds := by
  cases h with
  | cons h t => exact ⟨_, _, rfl, h, t⟩
theorem DtAll.strs_inv {H : Hp} : ∀ {vs : List V} {xs : List Str}, DtAll H vs (xs.map PyData.str) → vs = xs.map V.str
  | _, [], h => DtAll.nil_inv h
  | _, x :: r, h => by
    obtain ⟨v, w, rfl, h1, h2⟩ := DtAll.cons_inv h
    rw [Dt.str_inv h1, DtAll.strs_inv h2]
    rfl
theorem DtAll.strs {H : Hp} : ∀ (xs : List Str), DtAll H (xs.map V.str) (xs.map PyData.str)
  | [] => .nil
  | x :: r => .cons (.str x) (DtAll.strs r)
/-! ### a comprehension whose items are such data -/
def EltP (g : TG) (tt : TT) (te : TE) (vs : List Nat) (σ : L2.St) (x : V) (H : Hp) (P : Option V → Hp → Prop) : Prop :=
  g x (wipe σ vs) H fun σ2 H2 => wipe σ2 vs = wipe σ vs ∧ tt σ2 H2 fun b H3 => if b = true then te σ2 H3 fun y H4 => P (some y) H4 else P none H3
def IsOD (H : Hp) : Option V → Option PyData → Prop
  | some y, some d => Dt H y d
  | none, none => True
  | _, _ => False
theorem lc_dt {J : It} {n : Nat} {G : Hp → Prop} {Y : Nat → Hp → V → Hp → Prop} (w : Walk J n G Y) {g : TG} {tt : TT} {te : TE} {vs : List Nat} {σ : L2.St} {H : Hp} {Q : VK} (f : Nat → Option PyData) (hn : n ≤ 1000000)
    (hG : ∀ H', Same H H' → G H') (hY : ∀ i H1 x H2, Y i H1 x H2 → Same H1 H2)
    (hs : ∀ i x H1 H2 (P : Option V → Hp → Prop), i < n → Same H H1 → Y i H1 x H2 → (∀ o H3, Same H2 H3 → IsOD H3 o (f i) → P o H3) → EltP g tt te vs σ x H2 P)
    (hd : ∀ D H' ys, H D = none → Same H H' → H' D = some (.lst ys) → DtAll H' ys ((List.range n).filterMap f) → Q (.ref D) H') : LcB J g tt te vs σ H Q := by
  intro D hD
  have s0 : Same H (upd H D (.lst [])) := Same.nw hD
  refine lc_it w (fun i H' => Same H H' ∧ ∃ ys, H' D = some (.lst ys) ∧ ys.length ≤ i ∧ DtAll H' ys ((List.range i).filterMap f)) ⟨s0, [], upd_same, Nat.le_refl _, .nil⟩ (fun i H' _ p => hG H' p.1) ?_ ?_
  · rintro i x H1 H2 hi ⟨s1, ys, hys, hl, hD1⟩ y
    have s12 := hY i H1 x H2 y
    refine hs i x H1 H2 (fun o H3 => (match o with
      | some y => ∃ acc, H3 D = some (.lst acc) ∧ acc.length < sizeLine ∧ (Same H (upd H3 D (.lst (acc ++ [y]))) ∧ ∃ ys, upd H3 D (.lst (acc ++ [y])) D = some (.lst ys) ∧ ys.length ≤ i + 1 ∧ DtAll (upd H3 D (.lst (acc ++ [y]))) ys ((List.range (i + 1)).filterMap f))
      | none => Same H H3 ∧ ∃ ys, H3 D = some (.lst ys) ∧ ys.length ≤ i + 1 ∧ DtAll H3 ys ((List.range (i + 1)).filterMap f))) hi s1 y ?_
    intro o H3 s23 ho
    have s13 : Same H1 H3 := Same.trans s12 s23
    have h3 : H3 D = some (.lst ys) := s13 _ _ hys
    have d3 : DtAll H3 ys ((List.range i).filterMap f) := hD1.mono (.of s13)
    cases o with
    | some z =>
      cases e : f i with
      | none =>
        rw [e] at ho
        exact ho.elim
      | some d =>
        rw [e] at ho
        have ku : KeepT H3 (upd H3 D (.lst (ys ++ [z]))) := KeepT.up h3 (fun _ z => by cases z)
        refine ⟨ys, h3, ?_, ?_, ys ++ [z], upd_same, ?_, ?_⟩
        · have : (1000000 : Nat) < sizeLine := by decide
          omega
        · intro b o q
          rw [upd_ne (ne_of_none q hD)]
          exact s13 _ _ (s1 _ _ q)
        · rw [List.length_append, List.length_singleton]
          omega
        · rw [List.range_succ, List.filterMap_append]
          refine DtAll.append (d3.mono ku) ?_
          simp only [List.filterMap_cons, List.filterMap_nil, e]
          exact .cons (Dt.mono ku ho) .nil
    | none =>
      cases e : f i with
      | some d =>
        rw [e] at ho
        exact ho.elim
      | none =>
        refine ⟨Same.trans s1 s13, ys, h3, by omega, ?_⟩
        rw [List.range_succ, List.filterMap_append]
        simp only [List.filterMap_cons, List.filterMap_nil, e, List.append_nil]
        exact d3
  · rintro H' ⟨s1, ys, hys, hl, hD1⟩
    exact hd D H' ys hD s1 hys hD1
end RX
namespace RX
open PySem PySem.Spec PyProof.Rows L2
/-- a test that only reads, then the two ways -/
theorem rd_tst {c : TT} {t u : TS} {D : Ends} {σ : L2.St} {H : Hp} (b : Bool) (ht : ∀ QB : Bool → Hp → Prop, QB b H → c σ H QB) (h1 : b = true → t D σ H) (h2 : b = false → u D σ H) : tIfS c t u D σ H :=
  ht (fun b H1 => if b = true then t D σ H1 else u D σ H1) (rd_ite h1 h2)
/-- a value that only is read -/
theorem rd_val {t : TE} {σ : L2.St} {H : Hp} {Q : VK} (v : V) (ht : ∀ Q : VK, Q v H → t σ H Q) (h : Q v H) : t σ H Q := ht Q h
theorem str_len (t : Str) : t.length = t.cps.toList.length := by
  show t.cps.size = t.cps.toList.length
  rw [Array.length_toList]
end RX
namespace RX
open PySem PySem.Spec PyProof.Rows L2
theorem DtAll.bls_inv {H : Hp} : ∀ {vs : List V} {xs : List Bool}, DtAll H vs (xs.map PyData.bool) → vs = xs.map V.bl
  | _, [], h => DtAll.nil_inv h
  | _, x :: r, h => by
    obtain ⟨v, w, rfl, h1, h2⟩ := DtAll.cons_inv h
    rw [DtAll.bls_inv h2]
    cases h1
    rfl
theorem range_fm {α β : Type} (g : α → β) (l : List α) : (List.range l.length).filterMap (fun i => (l[i]?).map g) = l.map g := by
  induction l with
  | nil => rfl
  | cons a r ih =>
    rw [List.length_cons, List.range_succ_eq_map, List.filterMap_cons, List.filterMap_map]
    simp only [List.getElem?_cons_zero, Option.map_some, List.map_cons]
    congr 1
theorem cps_get (t : Str) (i : Nat) : t.cps[i]? = t.cps.toList[i]? := by simp
theorem same_at {Y : Nat → Hp → V → Hp → Prop} (h : ∀ i H x H', Y i H x H' → H' = H) : ∀ i H1 x H2, Y i H1 x H2 → Same H1 H2 := fun i H1 x H2 y => by
  rw [h i H1 x H2 y]
  exact Same.refl _
/-- over a text -/
theorem lc_text {K : PySem.W.Frag} {t : Str} {g : TG} {tt : TT} {te : TE} {vs : List Nat} {σ : L2.St} {H : Hp} {Q : VK} (f : Nat → Option PyData) (hn : t.length ≤ 1000000)
    (hs : ∀ c H1 (P : Option V → Hp → Prop), c ∈ t.cps.toList → Same H H1 → (∀ o H3, Same H1 H3 → IsOD H3 o (f c) → P o H3) → EltP g tt te vs σ (.str ⟨#[c]⟩) H1 P)
    (hd : ∀ D H' ys, H D = none → Same H H' → H' D = some (.lst ys) → DtAll H' ys (t.cps.toList.filterMap f) → Q (.ref D) H') : LcB (Its t) g tt te vs σ H Q := by
  have e : (List.range t.cps.size).filterMap (fun i => (t.cps.toList[i]?).bind f) = t.cps.toList.filterMap f := by
    have h := range_fm (id : Nat → Nat) t.cps.toList
    rw [List.map_id] at h
    conv => rhs; rw [← h]
    rw [List.filterMap_filterMap, Array.length_toList]
    simp
  refine lc_dt walk_str (fun i => (t.cps.toList[i]?).bind f) (by rw [str_len, Array.length_toList] at hn; exact hn) (fun _ _ => trivial) (same_at fun i H x H' y => y.1) (fun i x H1 H2 P hi s1 y k => ?_) (fun D H' ys nD s h d => hd D H' ys nD s h (by rw [← e]; exact d))
  obtain ⟨rfl, c, hc, rfl⟩ := y
  have hc' : t.cps.toList[i]? = some c := by rw [← cps_get]; exact hc
  refine hs c _ P (List.mem_of_getElem? hc') s1 fun o H3 s3 io => k o H3 s3 ?_
  rw [hc']
  exact io
/-- over a list or a tuple of such data -/
theorem lc_seq {J : It} {G : Hp → Prop} {xs : List V} {ds : List PyData} (w : Walk J xs.length G (YAt xs)) {g : TG} {tt : TT} {te : TE} {vs : List Nat} {σ : L2.St} {H : Hp} {Q : VK} (hx : DtAll H xs ds) (f : PyData → Option PyData) (hn : ds.length ≤ 1000000)
    (hG : ∀ H', Same H H' → G H')
    (hs : ∀ d x H1 (P : Option V → Hp → Prop), d ∈ ds → Dt H1 x d → Same H H1 → (∀ o H3, Same H1 H3 → IsOD H3 o (f d) → P o H3) → EltP g tt te vs σ x H1 P)
    (hd : ∀ D H' ys, H D = none → Same H H' → H' D = some (.lst ys) → DtAll H' ys (ds.filterMap f) → Q (.ref D) H') : LcB J g tt te vs σ H Q := by
  have hl := hx.length
  have e : (List.range xs.length).filterMap (fun i => (ds[i]?).bind f) = ds.filterMap f := by
    have h := range_fm (id : PyData → PyData) ds
    rw [List.map_id] at h
    conv => rhs; rw [← h]
    rw [List.filterMap_filterMap, hl]
    simp
  refine lc_dt w (fun i => (ds[i]?).bind f) (by rw [hl]; exact hn) hG (same_at fun i H x H' y => y.1) (fun i x H1 H2 P hi s1 y k => ?_) (fun D H' ys nD s h d => hd D H' ys nD s h (by rw [← e]; exact d))
  obtain ⟨rfl, hxi⟩ := y
  obtain ⟨d, hd1, hd2⟩ := hx.get hxi
  refine hs d x _ P (List.mem_of_getElem? hd1) (hd2.mono (.of s1)) s1 fun o H3 s3 io => k o H3 s3 ?_
  rw [hd1]
  exact io
end RX
namespace RX
theorem iteNT {A B : Prop} (h : B) : if (!true) = true then A else B := L2.iteF h
theorem iteNF {A B : Prop} (h : A) : if (!false) = true then A else B := L2.iteT h
end RX
namespace RX
open L2
theorem at_j {α : Type} {xs : List α} {v : α} {z : Int} (j : Nat) (e : z = (j : Int)) (h : xs[j]? = some v) : atI xs z = some v := by
  rw [e]
  exact atI_nat h
end RX
namespace RX
open PySem PySem.Spec PyProof.Rows L2
/-! ### own exceptions of one field, of two -/
def spX1 (C : Addr) (f : Str) : Sp := fun vs H Q _ => ∃ (a : Addr) (n : V), vs = [.ref a, n] ∧ H a = some (exo a C none) ∧ ∀ d, H d = none → d ≠ a → Q .non (upd (upd H d (exd d [(f, n)])) a (exo a C (some d)))
def spX2 (C : Addr) (f g : Str) : Sp := fun vs H Q _ => ∃ (a : Addr) (n m : V), vs = [.ref a, n, m] ∧ H a = some (exo a C none) ∧ ∀ d, H d = none → d ≠ a → Q .non (upd (upd (upd H d (exd d [(f, n)])) a (exo a C (some d))) d (exd d [(g, m), (f, n)]))
def spX3 (C : Addr) (f g k : Str) : Sp := fun vs H Q _ => ∃ (a : Addr) (n m l : V), vs = [.ref a, n, m, l] ∧ H a = some (exo a C none) ∧ ∀ d, H d = none → d ≠ a → Q .non (upd (upd (upd (upd H d (exd d [(f, n)])) a (exo a C (some d))) d (exd d [(g, m), (f, n)])) d (exd d [(k, l), (g, m), (f, n)]))
/-- what is raised, from a heap on -/
def Rz (H : Hp) (E : XK) (C : Addr) (fs : List (Str × V)) : Prop := ∀ d H', Same H H' → H' d = some (.xd fs) → E (.ref C) (some d) H'
theorem Rz.mono {H H' : Hp} {E : XK} {C : Addr} {fs : List (Str × V)} (h : Rz H E C fs) (s : Same H H') : Rz H' E C fs := fun d H2 s2 e => h d H2 (Same.trans s s2) e
def MkO (C : Addr) (sp : Sp) (vs : List V) (H1 : Hp) (Q : XK) : Prop := vs.length ≤ 1000 ∧ ∀ a, H1 a = none → sp (.ref a :: (vs ++ [])) (upd H1 a (exo a C none))
  (fun v H2 => v = .non ∧ ∃ (d : Addr) (fs : List (Str × V)), H2 a = some (exo a C (some d)) ∧ H2 d = some (exd d fs) ∧ H1 d = none ∧ Q (.ref C) (some d) (upd (del H2 a) d (.xd fs))) (fun _ _ _ => False)
section
variable {C : Addr} {f g k : Str} {t : TA} {σ : L2.St} {H : Hp} {Q : XK} {sp : Sp} {n m l : V}
theorem rd_mkO (h : t σ H fun vs H1 => MkO C sp vs H1 Q) : tMkO C sp [] t σ H Q := h
theorem mkO_end {H H2 : Hp} {a d : Addr} {fs : List (Str × V)} (ha : H a = none) (hd : H d = none) (hda : d ≠ a) (k : ∀ b, b ≠ a → b ≠ d → H2 b = H b) (h : Rz H Q C fs) : Q (.ref C) (some d) (upd (del H2 a) d (.xd fs)) := by
  refine h d _ (fun b o e => ?_) upd_same
  have nd : b ≠ d := ne_of_none e hd
  have na : b ≠ a := ne_of_none e ha
  rw [upd_ne nd, del_ne na, k b na nd]
  exact e
theorem mkX1 (h : Rz H Q C [(f, n)]) : MkO C (spX1 C f) [n] H Q := by
  refine ⟨by show 1 ≤ 1000; decide, fun a ha => ⟨a, n, rfl, upd_same, fun d hd hda => ⟨rfl, d, [(f, n)], upd_same, ?_, ?_, ?_⟩⟩⟩
  · rw [upd_ne hda, upd_same]
  · rw [upd_ne hda] at hd
    exact hd
  · rw [upd_ne hda] at hd
    refine mkO_end ha hd hda (fun b na nd => ?_) h
    rw [upd_ne na, upd_ne nd, upd_ne na]
theorem mkX2 (h : Rz H Q C [(g, m), (f, n)]) : MkO C (spX2 C f g) [n, m] H Q := by
  refine ⟨by show 2 ≤ 1000; decide, fun a ha => ⟨a, n, m, rfl, upd_same, fun d hd hda => ⟨rfl, d, [(g, m), (f, n)], ?_, upd_same, ?_, ?_⟩⟩⟩
  · rw [upd_ne (Ne.symm hda), upd_same]
  · rw [upd_ne hda] at hd
    exact hd
  · rw [upd_ne hda] at hd
    refine mkO_end ha hd hda (fun b na nd => ?_) h
    rw [upd_ne nd, upd_ne na, upd_ne nd, upd_ne na]
theorem mkX3 (h : Rz H Q C [(k, l), (g, m), (f, n)]) : MkO C (spX3 C f g k) [n, m, l] H Q := by
  refine ⟨by show 3 ≤ 1000; decide, fun a ha => ⟨a, n, m, l, rfl, upd_same, fun d hd hda => ⟨rfl, d, [(k, l), (g, m), (f, n)], ?_, upd_same, ?_, ?_⟩⟩⟩
  · rw [upd_ne (Ne.symm hda), upd_ne (Ne.symm hda), upd_same]
  · rw [upd_ne hda] at hd
    exact hd
  · rw [upd_ne hda] at hd
    refine mkO_end ha hd hda (fun b na nd => ?_) h
    rw [upd_ne nd, upd_ne nd, upd_ne na, upd_ne nd, upd_ne na]
/-- self.f = e of an exception, the first field; a further one -/
def OstAt (K : PySem.W.Frag) (f : Str) (x y : V) (H2 : Hp) (N : Hp → Prop) : Prop := ∃ a C : Addr, x = .ref a ∧ OexC K C ∧ PySem.W.findIn K (.ref C) f = some none ∧
  ((H2 a = some (exo a C none) ∧ ∀ dx, H2 dx = none → dx ≠ a → N (upd (upd H2 dx (exd dx [(f, y)])) a (exo a C (some dx)))) ∨
    ∃ (dx : Addr) (fs : List (Str × V)), H2 a = some (exo a C (some dx)) ∧ H2 dx = some (exd dx fs) ∧ fs.length ≤ 900 ∧ N (upd H2 dx (exd dx ((f, y) :: fs))))
theorem rd_ost {K : PySem.W.Frag} {to te : TE} {D : Ends} (h : te σ H fun y H1 => to σ H1 fun x H2 => OstAt K f x y H2 (D.nx σ)) : tOst K f to te D σ H := h
theorem ost1 {K : PySem.W.Frag} {a : Addr} {y : V} {N : Hp → Prop} (T : OexC K C) (hn : NoAttr K C f) (ha : H a = some (exo a C none)) (h : ∀ dx, H dx = none → dx ≠ a → N (upd (upd H dx (exd dx [(f, y)])) a (exo a C (some dx)))) : OstAt K f (.ref a) y H N := ⟨a, C, rfl, T, hn, .inl ⟨ha, h⟩⟩
theorem ost2 {K : PySem.W.Frag} {a dx : Addr} {y : V} {fs : List (Str × V)} {N : Hp → Prop} (T : OexC K C) (hn : NoAttr K C f) (ha : H a = some (exo a C (some dx))) (hd : H dx = some (exd dx fs)) (hl : fs.length ≤ 900) (h : N (upd H dx (exd dx ((f, y) :: fs)))) : OstAt K f (.ref a) y H N := ⟨a, C, rfl, T, hn, .inr ⟨dx, fs, ha, hd, hl, h⟩⟩
end
/-! ### a for over texts, each looked at, the first bad one refused -/
theorem SqT.same {K : PySem.W.Frag} {H H' : Hp} {a : Addr} {xs : List V} (e : Same H H') (h : SqT K H a xs) : SqT K H' a xs := by
  rcases h with (h | ⟨o, h⟩) | h
  · exact .inl (.inl (e _ _ h))
  · exact .inl (.inr ⟨o, e _ _ h⟩)
  · exact .inr h
/-- a sequence: a list or a tuple -/
def SqA (K : PySem.W.Frag) (H : Hp) (a : Addr) (xs : List V) : Prop := SqL K H a xs ∨ SqT K H a xs
theorem SqA.same {K : PySem.W.Frag} {H H' : Hp} {a : Addr} {xs : List V} (e : Same H H') (h : SqA K H a xs) : SqA K H' a xs := h.imp (Same.seq e) (SqT.same e)
/-- the for over it, by an invariant -/
theorem for_seq {K : PySem.W.Frag} {a : Addr} {xs : List V} {g : TG} {tb : TS} {D : Ends} {σ : L2.St} {H : Hp} (hq : SqA K H a xs) (Pv : Nat → L2.St → Hp → Prop) (h0 : Pv 0 σ H)
    (hs : (SqL K H a xs → ∀ i σ H', i ≤ xs.length → Pv i σ H' → SqL K H' a xs) ∧ (SqT K H a xs → ∀ i σ H', i ≤ xs.length → Pv i σ H' → SqT K H' a xs))
    (ht : ∀ i x σ H', xs[i]? = some x → Pv i σ H' → g x σ H' fun σ2 H2 => tb { D with nx := Pv (i + 1), ct := Pv (i + 1), bk := D.nx } σ2 H2) (hd : ∀ σ H', Pv xs.length σ H' → D.nx σ H') :
    SeqIt K (.ref a) H fun J H1 => ∃ W : Nat → Nat → L2.St → Hp → Prop, (∃ m, W 0 m σ H1) ∧ ∀ i m σ H, W i m σ H →
      (J.stop i H ∧ D.nx σ H) ∨ (J.go i H ∧ ∃ N : L2.St → Hp → Prop, (∀ σ' H', N σ' H' → ∃ m', m' < m ∧ W (i + 1) m' σ' H') ∧ ∀ x H', J.yld i H x H' → g x σ H' fun σ2 H2 => tb { D with nx := N, ct := N, bk := D.nx } σ2 H2) := by
  rcases hq with hq | hq
  · exact .inl ⟨xs, hq, for_list (K := K) Pv h0 (hs.1 hq) ht hd⟩
  · exact .inr ⟨xs, hq, for_tup (K := K) Pv h0 (hs.2 hq) ht hd⟩
/-- the same where all that a heap below knows is kept -/
theorem for_seqB {K : PySem.W.Frag} {a : Addr} {xs : List V} {g : TG} {tb : TS} {D : Ends} {σ : L2.St} {H0 H : Hp} (hq : SqA K H0 a xs) (Pv : Nat → L2.St → Hp → Prop) (s0 : Same H0 H) (h0 : Pv 0 σ H)
    (hs : ∀ i σ H', i ≤ xs.length → Pv i σ H' → Same H0 H')
    (ht : ∀ i x σ H', xs[i]? = some x → Pv i σ H' → g x σ H' fun σ2 H2 => tb { D with nx := Pv (i + 1), ct := Pv (i + 1), bk := D.nx } σ2 H2) (hd : ∀ σ H', Pv xs.length σ H' → D.nx σ H') :
    SeqIt K (.ref a) H fun J H1 => ∃ W : Nat → Nat → L2.St → Hp → Prop, (∃ m, W 0 m σ H1) ∧ ∀ i m σ H, W i m σ H →
      (J.stop i H ∧ D.nx σ H) ∨ (J.go i H ∧ ∃ N : L2.St → Hp → Prop, (∀ σ' H', N σ' H' → ∃ m', m' < m ∧ W (i + 1) m' σ' H') ∧ ∀ x H', J.yld i H x H' → g x σ H' fun σ2 H2 => tb { D with nx := N, ct := N, bk := D.nx } σ2 H2) := by
  rcases hq with hq | hq
  · exact .inl ⟨xs, Same.seq s0 hq, for_list (K := K) Pv h0 (fun i σ H' hi p => Same.seq (hs i σ H' hi p) hq) ht hd⟩
  · exact .inr ⟨xs, SqT.same s0 hq, for_tup (K := K) Pv h0 (fun i σ H' hi p => SqT.same (hs i σ H' hi p) hq) ht hd⟩
/-- what it leans on stands: H0 below, kept -/
theorem for_keep {K : PySem.W.Frag} {a : Addr} {xs : List V} {H0 H : Hp} {n : Nat} {Pv : Nat → L2.St → Hp → Prop} (s : Same H0 H) (hq : SqA K H0 a xs) (h : ∀ i σ H', i ≤ n → Pv i σ H' → Same H0 H') :
    SqA K H a xs ∧ True := ⟨hq.same s, trivial⟩
theorem rd_for {wi : TI} {g : TG} {tb : TS} {D : Ends} {σ : L2.St} {H : Hp} (h : wi σ H fun J H1 => ∃ W : Nat → Nat → L2.St → Hp → Prop, (∃ m, W 0 m σ H1) ∧ ∀ i m σ H, W i m σ H →
      (J.stop i H ∧ D.nx σ H) ∨ (J.go i H ∧ ∃ N : L2.St → Hp → Prop, (∀ σ' H', N σ' H' → ∃ m', m' < m ∧ W (i + 1) m' σ' H') ∧ ∀ x H', J.yld i H x H' → g x σ H' fun σ2 H2 => tb { D with nx := N, ct := N, bk := D.nx } σ2 H2)) : tFor wi g tb D σ H := h
end RX
namespace RX
open PySem L2
theorem putK_length {κ : Type} [DecidableEq κ] {k : κ} {v : V} (kvs : List (κ × V)) : (putK kvs k v).length ≤ kvs.length + 1 := by
  unfold putK
  split
  · rw [List.length_map]; omega
  · rw [List.length_append, List.length_singleton]; omega
theorem le_size {n : Nat} (h : n ≤ 1000000) : n ≤ sizeLine := Nat.le_trans h (by decide)
theorem lt_size {n : Nat} (h : n < 1000000) : n < sizeLine := Nat.lt_of_lt_of_le h (by decide)
theorem get_map {α : Type} {l : List α} {f : α → V} {i : Nat} {y : V} (hi : (l.map f)[i]? = some y) : ∃ x, l[i]? = some x ∧ y = f x := by
  rw [List.getElem?_map] at hi
  cases e : l[i]? with
  | none => rw [e] at hi; cases hi
  | some x => rw [e] at hi; exact ⟨x, rfl, (Option.some.inj hi).symm⟩
theorem take_succ_of {α : Type} {l : List α} {i : Nat} {x : α} (h : l[i]? = some x) : l.take (i + 1) = l.take i ++ [x] := by rw [List.take_add_one, h]; rfl
/-- the first that is found, behind a part without any -/
theorem find_at {α : Type} {p : α → Bool} {l : List α} {i : Nat} {x : α} (h : l[i]? = some x) (hn : (l.take i).find? p = none) (hp : p x = true) : l.find? p = some x := by
  have e2 : l = l.take i ++ ([x] ++ l.drop (i + 1)) := by rw [← List.append_assoc, ← take_succ_of h, List.take_append_drop]
  rw [e2, List.find?_append, hn, List.find?_append]
  simp [hp]
theorem find_more {α : Type} {p : α → Bool} {l : List α} {i : Nat} {x : α} (h : l[i]? = some x) (hn : (l.take i).find? p = none) (hp : p x = false) : (l.take (i + 1)).find? p = none := by
  rw [take_succ_of h, List.find?_append, hn]
  simp [hp]
theorem find_all {α : Type} {p : α → Bool} {l : List α} {n : Nat} (e : n = l.length) (hn : (l.take n).find? p = none) : l.find? p = none := by
  rw [e, List.take_length] at hn
  exact hn
end RX
namespace RX
open PySem PySem.Spec PyProof.Rows L2
section
variable {σ : L2.St} {H : Hp} {Q : VK} {ty td tv : TE} {D : Ends}
theorem rd_dnew (h : Nw H (.dK []) Q) : tDNewK σ H Q := h
theorem rd_dnewT (h : Nw H (.dT []) Q) : tDNewT σ H Q := h
def DinA (neg : Bool) (y x : V) (H2 : Hp) (Q : VK) : Prop := ∃ a o, x = .ref a ∧ DGet H2 a y o ∧ Q (.bl (if neg then !o.isSome else o.isSome)) H2
theorem rd_din (h : ty σ H fun y H1 => td σ H1 fun x H2 => DinA false y x H2 Q) : tDIn ty td σ H Q := h
theorem rd_dnin (h : ty σ H fun y H1 => td σ H1 fun x H2 => DinA true y x H2 Q) : tDNotIn ty td σ H Q := h
theorem dinS {a : Addr} {kvs : List (Key × V)} {x : Str} (hd : H a = some (.dK kvs)) (h : Q (.bl (valV kvs (Sum.inr x)).isSome) H) : DinA false (.str x) (.ref a) H Q := ⟨a, _, rfl, DGet.k (k := Sum.inr x) hd, h⟩
theorem dninS {a : Addr} {kvs : List (Key × V)} {x : Str} (hd : H a = some (.dK kvs)) (h : Q (.bl (!(valV kvs (Sum.inr x)).isSome)) H) : DinA true (.str x) (.ref a) H Q := ⟨a, _, rfl, DGet.k (k := Sum.inr x) hd, h⟩
def DputA (v x y : V) (H3 : Hp) (N : Hp → Prop) : Prop := ∃ a H4, x = .ref a ∧ DPut H3 a y v H4 ∧ N H4
theorem rd_dput (h : tv σ H fun v H1 => td σ H1 fun x H2 => ty σ H2 fun y H3 => DputA v x y H3 (D.nx σ)) : sDPut td ty tv D σ H := h
theorem dputS {a : Addr} {kvs : List (Key × V)} {x : Str} {v : V} {N : Hp → Prop} (hd : H a = some (.dK kvs)) (hl : kvs.length < 1000000) (h : N (upd H a (.dK (putK kvs (Sum.inr x) v)))) : DputA v (.ref a) (.str x) H N := ⟨a, _, rfl, DPut.k (k := Sum.inr x) hd (lt_size hl), h⟩
end
/-- an object that the older heap does not know is written -/
theorem Same.up {H H' : Hp} {p : Addr} {o : HO} (e : Same H H') (h : H p = none) : Same H (upd H' p o) := fun b u hb => by
  rw [upd_ne (ne_of_none hb h)]
  exact e b u hb
end RX
namespace RX
open PySem PySem.Spec PyProof.Rows L2
theorem DtAll.get_map {α : Type} {enc : α → PyData} {H : Hp} {vs : List V} {xs : List α} {i : Nat} {v : V} (h : DtAll H vs (xs.map enc)) (e : vs[i]? = some v) : ∃ x, xs[i]? = some x ∧ Dt H v (enc x) := by
  obtain ⟨d, h1, h2⟩ := h.get e
  rw [List.getElem?_map] at h1
  cases q : xs[i]? with
  | none => rw [q] at h1; cases h1
  | some x => rw [q] at h1; cases h1; exact ⟨x, rfl, h2⟩
theorem rd_elt {g : TG} {tt : TT} {te : TE} {vs : List Nat} {σ σ' : L2.St} {x : V} {H : Hp} {P : Option V → Hp → Prop} (e : wipe σ vs = σ') (h : g x σ' H fun σ2 H2 => wipe σ2 vs = σ' ∧ tt σ2 H2 fun b H3 => if b = true then te σ2 H3 fun y H4 => P (some y) H4 else P none H3) : EltP g tt te vs σ x H P := by
  unfold EltP
  rw [e]
  exact h
end RX
namespace RX
open PySem PySem.Spec PyProof.Rows L2
/-- over a list or a tuple of such data that stands for a list, each item mapped -/
theorem lc_map {J : It} {G : Hp → Prop} {xs : List V} {α : Type} {l : List α} {enc f : α → PyData} (w : Walk J xs.length G (YAt xs)) {g : TG} {tt : TT} {te : TE} {vs : List Nat} {σ : L2.St} {H : Hp} {Q : VK} (hx : DtAll H xs (l.map enc)) (hn : l.length ≤ 1000000)
    (hG : ∀ H', Same H H' → G H')
    (hs : ∀ c x H1 (P : Option V → Hp → Prop), c ∈ l → Dt H1 x (enc c) → Same H H1 → (∀ y H3, Same H1 H3 → Dt H3 y (f c) → P (some y) H3) → EltP g tt te vs σ x H1 P)
    (hd : ∀ D H' ys, H D = none → Same H H' → H' D = some (.lst ys) → DtAll H' ys (l.map f) → Q (.ref D) H') : LcB J g tt te vs σ H Q := by
  have hl : xs.length = l.length := by rw [hx.length, List.length_map]
  have e : (List.range xs.length).filterMap (fun i => (l[i]?).map f) = l.map f := by
    have h := range_fm f l
    rw [hl]
    exact h
  refine lc_dt w (fun i => (l[i]?).map f) (by rw [hl]; exact hn) hG (same_at fun i H x H' y => y.1) (fun i x H1 H2 P hi s1 y k => ?_) (fun D H' ys nD s h d => hd D H' ys nD s h (by rw [← e]; exact d))
  obtain ⟨rfl, hxi⟩ := y
  obtain ⟨c, hc, hd2⟩ := hx.get_map hxi
  refine hs c x _ P (List.mem_of_getElem? hc) (hd2.mono (.of s1)) s1 fun y H3 s3 io => k (some y) H3 s3 ?_
  rw [hc]
  exact io
end RX
namespace RX
open PySem PySem.Spec PyProof.Rows L2
section
variable {K : PySem.W.Frag} {p a C dx : Addr} {xs : List V} {H H' : Hp}
/-! ### enumerate over a tuple -/
theorem walk_enumT : Walk (Itet K a) xs.length (fun H => SqT K H a xs) (YPair (fun i => some (.int (i : Nat))) (fun i => xs[i]?)) := by
  refine ⟨fun i _ hi q => ⟨xs, xs[i], q, by simp [hi]⟩, fun _ q => ⟨xs, q, Nat.le_refl _⟩, fun i H v H' _ q y => ?_⟩
  obtain ⟨T, x, h1, h2, h3, h4⟩ := y
  exact ⟨T, .int (i : Nat), x, h1, h2, h3, rfl, h4 xs q⟩
theorem rd_enT {ta : TA} {σ : L2.St} {R : It → Hp → Prop} (h : ta σ H fun vs H1 => ∃ a xs, vs = [.ref a] ∧ SqT K H1 a xs ∧ R (Itet K a) H1) : iEnumT K ta σ H R := h
theorem enT {R : It → Hp → Prop} (h1 : SqT K H a xs) (h : R (Itet K a) H) : ∃ b ys, ([.ref a] : List V) = [.ref b] ∧ SqT K H b ys ∧ R (Itet K b) H := ⟨a, xs, rfl, h1, h⟩
/-- its for -/
theorem for_enT {g : TG} {tb : TS} {D : Ends} {σ : L2.St} {H0 H : Hp} (hq : SqT K H0 a xs) (Pv : Nat → L2.St → Hp → Prop) (h0 : Pv 0 σ H)
    (hs : ∀ i σ H', i ≤ xs.length → Pv i σ H' → Same H0 H')
    (ht : ∀ i x T σ H', xs[i]? = some x → Pv i σ H' → H' T = none → g (.ref T) σ (upd H' T (.tup [.int (i : Nat), x])) fun σ2 H2 => tb { D with nx := Pv (i + 1), ct := Pv (i + 1), bk := D.nx } σ2 H2) (hd : ∀ σ H', Pv xs.length σ H' → D.nx σ H') :
    ∃ W : Nat → Nat → L2.St → Hp → Prop, (∃ m, W 0 m σ H) ∧ ∀ i m σ H, W i m σ H →
      ((Itet K a).stop i H ∧ D.nx σ H) ∨ ((Itet K a).go i H ∧ ∃ N : L2.St → Hp → Prop, (∀ σ' H', N σ' H' → ∃ m', m' < m ∧ W (i + 1) m' σ' H') ∧ ∀ x H', (Itet K a).yld i H x H' → g x σ H' fun σ2 H2 => tb { D with nx := N, ct := N, bk := D.nx } σ2 H2) := by
  refine for_it (walk_enumT (K := K) (xs := xs)) Pv h0 (fun i σ H hi p => SqT.same (hs i σ H hi p) hq) (fun i x σ H H' hi p y => ?_) hd
  obtain ⟨T, u, v, rfl, h1, rfl, h2, h3⟩ := y
  cases h2
  exact ht i v T σ H h3 p h1
/-! ### self.f = e -/
def SfldOf (K : PySem.W.Frag) (f : Str) (y x : V) (H2 : Hp) (N : Hp → Prop) : Prop := ∃ a C dx fs, x = .ref a ∧ H2 a = some (.ins C dx fs) ∧ Cls K C ∧ NoAttr K C f ∧ fs.length < 1000 ∧ N (upd H2 a (.ins C dx (putF f y fs)))
theorem rd_sfld {f : Str} {ta tv : TE} {D : Ends} {σ : L2.St} (h : tv σ H fun y H1 => ta σ H1 fun x H2 => SfldOf K f y x H2 (D.nx σ)) : sFld K ta tv f D σ H := h
theorem sfldr {f : Str} {y : V} {fs : List (Str × V)} {N : Hp → Prop} (h1 : H a = some (.ins C dx fs)) (h2 : Cls K C) (h3 : NoAttr K C f) (h4 : fs.length < 1000) (h : N (upd H a (.ins C dx (putF f y fs)))) : SfldOf K f y (.ref a) H N := ⟨a, C, dx, fs, rfl, h1, h2, h3, h4, h⟩
/-! ### texts in a list -/
theorem inV_strs (x : Str) (xs : List Str) : inV (.str x) (xs.map V.str) = decide (x ∈ xs) := by
  unfold inV
  rw [List.any_map, Bool.eq_iff_iff, decide_eq_true_eq, List.any_eq_true]
  constructor
  · rintro ⟨y, hy, e⟩
    have e' : (y == x) = true := e
    rw [beq_iff_eq] at e'
    exact e' ▸ hy
  · intro h
    exact ⟨x, h, (beq_iff_eq (a := x) (b := x)).mpr rfl⟩
theorem rd_inStrs {x : Str} {xs : List Str} {Q : VK} (h1 : SqA K H p (xs.map V.str)) (h : Q (.bl (decide (x ∈ xs))) H) : rInU K false (.str x) (.ref p) H Q :=
  ⟨xs.map V.str, h1, rfl, by rw [List.all_map, List.all_eq_true]; intro y _; rfl, by rw [inV_strs]; exact h⟩
theorem rd_ninStrs {x : Str} {xs : List Str} {Q : VK} (h1 : SqA K H p (xs.map V.str)) (h : Q (.bl (!decide (x ∈ xs))) H) : rInU K true (.str x) (.ref p) H Q :=
  ⟨xs.map V.str, h1, rfl, by rw [List.all_map, List.all_eq_true]; intro y _; rfl, by rw [inV_strs]; exact h⟩
/-! ### all but one object stands -/
def Sb (b : Addr) (H H' : Hp) : Prop := ∀ a o, a ≠ b → H a = some o → H' a = some o
theorem Sb.refl {b : Addr} (H : Hp) : Sb b H H := fun _ _ _ h => h
theorem Sb.of {b : Addr} (s : Same H H') : Sb b H H' := fun a o _ h => s a o h
theorem Sb.trans {b : Addr} {H1 H2 H3 : Hp} (s : Sb b H1 H2) (t : Sb b H2 H3) : Sb b H1 H3 := fun a o n h => t a o n (s a o n h)
theorem Sb.up {b : Addr} {o : HO} (s : Sb b H H') : Sb b H (upd H' b o) := fun a u n h => by rw [upd_ne n]; exact s a u n h
theorem Sb.same {b : Addr} {H0 H1 H2 : Hp} (h : H0 b = none) (s : Same H0 H1) (t : Sb b H1 H2) : Same H0 H2 := fun a o e => t a o (ne_of_none e h) (s a o e)
theorem Sb.keep {b : Addr} {o : HO} (hb : H b = some o) (n : ∀ xs, o ≠ .tup xs) (s : Sb b H H') : KeepT H H' := fun a xs e => s a _ (fun z => by rw [z, hb] at e; exact n xs (Option.some.inj e)) e
/-- what is raised, while b may change -/
def RzX (b : Addr) (H : Hp) (E : XK) (C : Addr) (fs : List (Str × V)) : Prop := ∀ d H', Sb b H H' → H' d = some (.xd fs) → E (.ref C) (some d) H'
theorem RzX.rz {b : Addr} {E : XK} {fs : List (Str × V)} (h : RzX b H E C fs) (s : Sb b H H') : Rz H' E C fs := fun d H2 s2 e => h d H2 (Sb.trans s (Sb.of s2)) e
theorem RzX.mono {b : Addr} {E : XK} {fs : List (Str × V)} (h : RzX b H E C fs) (s : Sb b H H') : RzX b H' E C fs := fun d H2 s2 e => h d H2 (Sb.trans s s2) e
/-- from a heap that does not know b -/
theorem Rz.x {b : Addr} {H0 : Hp} {E : XK} {fs : List (Str × V)} (h : Rz H0 E C fs) (hb : H0 b = none) (s : Same H0 H) : RzX b H E C fs := fun d H2 s2 e => h d H2 (Sb.same hb s s2) e
/-! ### a list is written, ints -/
theorem rd_setL {k : Int} {v : V} {Q : Hp → Prop} {xs : List V} (j : Nat) (h : H p = some (.lst xs)) (hj : ixN xs.length k = some j) (q : Q (upd H p (.lst (xs.set j v)))) : rSetL (.ref p) (.int k) v H Q := ⟨p, xs, k, j, rfl, rfl, h, hj, q⟩
theorem rd_gstore {to ti : TE} {t : TSet} {v : V} {σ : L2.St} {QG : L2.St → Hp → Prop} (h : to σ H fun o H1 => ti σ H1 fun i H2 => t o i v H2 fun H3 => QG σ H3) : gSub to ti t v σ H QG := h
theorem rd_abs {i : Int} {Q : VK} (h : Q (.int (if i < 0 then -i else i)) H) : ∃ j, ([.int i] : List V) = [.int j] ∧ Q (.int (if j < 0 then -j else j)) H := ⟨i, rfl, h⟩
theorem rd_rng1 {ta : TA} {σ : L2.St} {R : It → Hp → Prop} (h : ta σ H fun vs H1 => ∃ j : Int, vs = [.int j] ∧ -(2 ^ 62) ≤ j ∧ j < 2 ^ 62 ∧ R (Itr 0 j.toNat) H1) : iRng1 ta σ H R := h
theorem rng1 {i : Int} {R : It → Hp → Prop} (h1 : -(2 ^ 62) ≤ i) (h2 : i < 2 ^ 62) (h : R (Itr 0 i.toNat) H) : ∃ j : Int, ([.int i] : List V) = [.int j] ∧ -(2 ^ 62) ≤ j ∧ j < 2 ^ 62 ∧ R (Itr 0 j.toNat) H := ⟨i, rfl, h1, h2, h⟩
end
end RX
namespace RX
open PySem PySem.Spec PyProof.Rows L2
theorem lc_mapA {K : PySem.W.Frag} {p : Addr} {xs : List V} {α : Type} {l : List α} {enc f : α → PyData} {g : TG} {tt : TT} {te : TE} {vs : List Nat} {σ : L2.St} {H : Hp} {Q : VK} (hq : SqA K H p xs) (hx : DtAll H xs (l.map enc)) (hn : l.length ≤ 1000000)
    (hs : ∀ c x H1 (P : Option V → Hp → Prop), c ∈ l → Dt H1 x (enc c) → Same H H1 → (∀ y H3, Same H1 H3 → Dt H3 y (f c) → P (some y) H3) → EltP g tt te vs σ x H1 P)
    (hd : ∀ D H' ys, H D = none → Same H H' → H' D = some (.lst ys) → DtAll H' ys (l.map f) → Q (.ref D) H') : SeqIt K (.ref p) H fun J H1 => LcB J g tt te vs σ H1 Q := by
  rcases hq with hq | hq
  · exact rd_itL hq (lc_map walk_list hx hn (fun H' s => Same.seq s hq) hs hd)
  · exact rd_itT hq (lc_map walk_tup hx hn (fun H' s => SqT.same s hq) hs hd)
end RX
namespace RX
open PySem PySem.Spec PyProof.Rows L2
theorem SqA.sb {K : PySem.W.Frag} {a b : Addr} {xs : List V} {H H' : Hp} (n : a ≠ b) (e : Sb b H H') (h : SqA K H a xs) : SqA K H' a xs := by
  rcases h with h | h
  · rcases h with (h | ⟨o, h⟩) | h
    · exact .inl (.inl (.inl (e _ _ n h)))
    · exact .inl (.inl (.inr ⟨o, e _ _ n h⟩))
    · exact .inl (.inr h)
  · rcases h with (h | ⟨o, h⟩) | h
    · exact .inr (.inl (.inl (e _ _ n h)))
    · exact .inr (.inl (.inr ⟨o, e _ _ n h⟩))
    · exact .inr (.inr h)
theorem ne_new {H : Hp} {a b : Addr} {o : HO} (h : H b = some o) (n : H a = none) : b ≠ a := fun z => by rw [z, n] at h; cases h
end RX
namespace RX
open PySem PySem.Spec PyProof.Rows L2
theorem atI_in {α : Type} {xs : List α} {i : Int} (h0 : 0 ≤ i) (h1 : i < xs.length) : ∃ c, atI xs i = some c ∧ c ∈ xs := by
  have h : i.toNat < xs.length := by omega
  refine ⟨xs[i.toNat], at_j i.toNat (by omega) (List.getElem?_eq_getElem h), List.getElem_mem h⟩
theorem atI_strs {xs : List Str} {i : Int} (h0 : 0 ≤ i) (h1 : i < xs.length) : ∃ x, x ∈ xs ∧ atI (xs.map V.str) i = some (.str x) := by
  have h : i.toNat < xs.length := by omega
  refine ⟨xs[i.toNat], List.getElem_mem h, at_j i.toNat (by omega) ?_⟩
  rw [List.getElem?_map, List.getElem?_eq_getElem h]
  rfl
theorem rd_rng {i : Int} {H : Hp} {R : It → Hp → Prop} (h1 : -(2 ^ 62) ≤ i) (h2 : i < 2 ^ 62) (h : R (Itr 0 i.toNat) H) : ∃ j : Int, ([V.int i] : List V) = [V.int j] ∧ -(2 ^ 62) ≤ j ∧ j < 2 ^ 62 ∧ R (Itr 0 j.toNat) H := ⟨i, rfl, h1, h2, h⟩
/-- a comprehension of texts, its items may write old objects -/
theorem lc_strs {J : It} {n : Nat} {G : Hp → Prop} {Y : Nat → Hp → V → Hp → Prop} (w : Walk J n G Y) {g : TG} {tt : TT} {te : TE} {vs : List Nat} {σ : L2.St} {H : Hp} {Q : VK} (Pz : Str → Prop) (Iv : Hp → Prop) (hn : n ≤ 1000000) (h0 : Iv H) (hG : ∀ H', Iv H' → G H')
    (hU : ∀ D H' ys, H D = none → Iv H' → Iv (upd H' D (.lst ys)))
    (hs : ∀ i x H1 H2 (P : Option V → Hp → Prop), i < n → Iv H1 → Y i H1 x H2 → (∀ (z : Str) H3, Pz z → (∀ D ys, H D = none → H1 D = some (.lst ys) → H3 D = some (.lst ys)) → Iv H3 → P (some (.str z)) H3) → EltP g tt te vs σ x H2 P)
    (hd : ∀ D H' (zs : List Str), H D = none → Iv H' → H' D = some (.lst (zs.map V.str)) → zs.length = n → (∀ z ∈ zs, Pz z) → Q (.ref D) H') : LcB J g tt te vs σ H Q := by
  intro D hD
  refine lc_it w (fun i H' => Iv H' ∧ ∃ zs : List Str, H' D = some (.lst (zs.map V.str)) ∧ zs.length = i ∧ ∀ z ∈ zs, Pz z) ⟨hU _ _ _ hD h0, [], upd_same, rfl, fun _ h => by cases h⟩ (fun i H' _ p => hG H' p.1) ?_ ?_
  · rintro i x H1 H2 hi ⟨i1, zs, hz, hl, ha⟩ y
    refine hs i x H1 H2 (fun o H3 => (match o with
      | some y => ∃ acc, H3 D = some (.lst acc) ∧ acc.length < sizeLine ∧ (Iv (upd H3 D (.lst (acc ++ [y]))) ∧ ∃ zs : List Str, upd H3 D (.lst (acc ++ [y])) D = some (.lst (zs.map V.str)) ∧ zs.length = i + 1 ∧ ∀ z ∈ zs, Pz z)
      | none => Iv H3 ∧ ∃ zs : List Str, H3 D = some (.lst (zs.map V.str)) ∧ zs.length = i + 1 ∧ ∀ z ∈ zs, Pz z)) hi i1 y ?_
    intro z H3 hz3 hk i3
    refine ⟨zs.map V.str, hk _ _ hD hz, ?_, hU _ _ _ hD i3, zs ++ [z], ?_, ?_, ?_⟩
    · rw [List.length_map]
      have : (1000000 : Nat) < sizeLine := by decide
      omega
    · rw [upd_same, List.map_append]
      rfl
    · rw [List.length_append, List.length_singleton]; omega
    · intro q hq
      rcases List.mem_append.mp hq with h | h
      · exact ha q h
      · rw [List.mem_singleton.mp h]; exact hz3
  · rintro H' ⟨i1, zs, hz, hl, ha⟩
    exact hd D H' zs hD i1 hz hl ha
theorem sum_le {zs : List Str} {m : Nat} (h : ∀ z ∈ zs, z.length ≤ m) : (zs.map (·.length)).sum ≤ zs.length * m := by
  induction zs with
  | nil => simp
  | cons x r ih =>
    have h1 := h x List.mem_cons_self
    have h2 := ih fun z hz => h z (List.mem_cons_of_mem _ hz)
    rw [List.map_cons, List.sum_cons, List.length_cons, Nat.succ_mul]
    omega
end RX
namespace RX
open PySem PySem.Spec PyProof.Rows L2
/-- a place where ways meet -/
theorem rd_cut {t u : TS} {D : Ends} {σ : L2.St} {H : Hp} (R : L2.St → Hp → Prop) (h2 : ∀ σ' H', R σ' H' → u D σ' H') (h1 : ∀ N : L2.St → Hp → Prop, (∀ σ' H', R σ' H' → N σ' H') → t { D with nx := N } σ H) : tSeq t u D σ H := h1 (u D) h2
theorem decI (i j : Int) : decide (V.int i = V.int j) = decide (i = j) := by
  rw [Bool.eq_iff_iff, decide_eq_true_eq, decide_eq_true_eq]
  exact ⟨V.int.inj, congrArg V.int⟩
theorem pick2 {x y : V} {b : Bool} : atI [x, y] (if b = true then 1 else 0) = some (if b = true then y else x) := by cases b <;> rfl
end RX
namespace RX
open PySem PySem.Spec PyProof.Rows L2
theorem pickD {d k : Int} {x y : Str} : atI [V.str x, V.str y] (if decide (V.int d = V.int k) = true then 1 else 0) = some (V.str (if d = k then y else x)) := by
  rw [decI]
  by_cases e : d = k
  · rw [if_pos e, decide_eq_true e]; rfl
  · rw [if_neg e, decide_eq_false e]; rfl
theorem repD {d k : Int} {t : Str} : (List.replicate (if decide (V.int d = V.int k) = true then (1 : Int) else 0).toNat [V.str t]).flatten = (if d = k then [t] else []).map V.str := by
  rw [decI]
  by_cases e : d = k
  · rw [if_pos e, decide_eq_true e]; rfl
  · rw [if_neg e, decide_eq_false e]; rfl
theorem DtAll.strsD {H : Hp} (xs : List Str) : DtAll H (xs.map V.str) (xs.map PyData.str) := DtAll.strs xs
end RX
namespace RX
open PySem PySem.Spec PyProof.Rows L2
theorem rd_st {t : TS} {D : Ends} {σ σ' : L2.St} {H : Hp} (e : σ = σ') (h : t D σ' H) : t D σ H := by rw [e]; exact h
theorem rd_xfd {K : PySem.W.Frag} {a : Addr} {cls : Value} {d : Option Addr} {f : Str} {te : TE} {σ : L2.St} {H : Hp} {Q : VK} (h : te σ H fun x H1 => x = .ref a ∧ ∃ (C dd : Addr) (fs : List (Str × V)) (v : V), cls = .ref C ∧ d = some dd ∧ XfC K C ∧ PySem.W.findIn K (.ref C) f = some none ∧ H1 dd = some (.xd fs) ∧ fs.lookup f = some v ∧ Q v H1) : tXfD K a cls d f te σ H Q := h
end RX
namespace RX
open PySem PySem.Spec PyProof.Rows L2
/-- a text of true code points -/
def Cp (x : Str) : Prop := ∀ c ∈ x.cps.toList, c < 0x110000
theorem Cp.ok {x : Str} (h : Cp x) : PyData.strOk x = true := by
  unfold PyData.strOk
  rw [← Array.all_toList, List.all_eq_true]
  intro c hc
  exact decide_eq_true (h c hc)
theorem Cp.app {x y : Str} (h : Cp x) (k : Cp y) : Cp (x ++ y) := by
  intro c hc
  rw [Str.cps_append, Array.toList_append, List.mem_append] at hc
  exact hc.elim (h c) (k c)
theorem Cp.one {x : Str} {c : Nat} (h : Cp x) (m : c ∈ x.cps.toList) : Cp ⟨#[c]⟩ := by
  intro d hd
  have : d = c := by simpa using hd
  rw [this]
  exact h c m
end RX
namespace RX
open PySem PySem.Spec PyProof.Rows L2
theorem Cp.cut {x : Str} {lo hi : Option Int} (h : Cp x) : Cp (cutS x lo hi) := by
  intro c hc
  have hc' : c ∈ ((x.cps.toList.drop (HT.sIx x.length 0 lo)).take (HT.sIx x.length x.length hi - HT.sIx x.length 0 lo)).toArray.toList := hc
  rw [List.toList_toArray] at hc'
  exact h c (List.mem_of_mem_drop (List.mem_of_mem_take hc'))
theorem Cp.join {s : Str} (hs : Cp s) : ∀ {zs : List Str}, (∀ z ∈ zs, Cp z) → Cp (Str.join s zs)
  | [], _ => fun c hc => by cases hc
  | [x], h => h x List.mem_cons_self
  | x :: y :: r, h => ((h x List.mem_cons_self).app hs).app (Cp.join hs fun z hz => h z (List.mem_cons_of_mem _ hz))
end RX

/-! the head: facts, defs, own Bools; the statics' table in the fragment -/
namespace RX
open PySem PySem.Spec PyProof.Rows L2
structure SaysY (fa : List He.Fa) (fn : List He.DefD) (ex : PySem.W.Frag → Bool) (K : PySem.W.Frag) : Prop where
  d : He.SaysD fa fn K
  more : ex K = true
abbrev AlY : Type := He.AlD × Bool
def frY (n : Nat) (g : Addr → Option Obj) : PySem.W.Frag := He.frG g (He.asD g n ++ [cStatics])
def obsY (n : Nat) (fa : List He.Fa) (fn : List He.DefD) (ex : PySem.W.Frag → Bool) (g : Addr → Option Obj) : AlY := (He.obsD fa fn (frY n g), ex (frY n g))
def hookY (n : Nat) (fa : List He.Fa) (fn : List He.DefD) (ex : PySem.W.Frag → Bool) : PySem.W.Hook where
  α := AlY
  obs := fun s => obsY n fa fn ex s.heap.get?
  val := fun _ => (He.valD fn, true)
  says := fun _ h => ∃ K : PySem.W.Frag, K.In h ∧ SaysY fa fn ex K
  of := fun _ _ e => ⟨_, He.frG_in, congrArg (fun z : AlY => z.1) e, congrArg (fun z : AlY => z.2) e⟩
  keeps := fun _ _ _ ⟨K, hK, c⟩ k => ⟨K, PySem.W.Frag.In.keeps hK k, c⟩
theorem obsY_eq {n : Nat} {fa : List He.Fa} {fn : List He.DefD} {ex : PySem.W.Frag → Bool} {g : Addr → Option Obj} {s : Shared} (h : ∀ a, g a = s.heap.get? a) : obsY n fa fn ex g = (hookY n fa fn ex).obs s := by
  have e : g = s.heap.get? := funext h
  rw [e] <;> rfl
/-- a law's end where what is raised leans on the world -/
theorem walk_ofX {l : PySem.W.OpenLaw} {n k : Nat} {q : Program} {loose : List Str} {XP : (Str → Option Value) → Heap → Prop} {YP : World → Heap → Prop} {d : DefRec} {x : Str}
    (hn : l.most = some n) (hn2 : n ≤ sizeLine) (hdf : d.params.defaults = []) (hr : Room k callerA)
    (F : ∀ (w : World) (mg : Str → Option Value) (fa : Addr) (h : Heap), YP w h → h.Ns mainGlobals mg → mg d.name = some (.ref fa) →
      ∃ (K : PySem.W.Frag) (sp : Sp), K.In h ∧
        (∀ (H : Hp) (a : Addr) (ns : List Int), ns.length ≤ n → SqL K H a (ns.map V.int) → sp [.ref a] H (fun v _ => v = .bl true) fun _ _ _ => False) ∧
        ∃ fd : FuncData, (∀ (s : Shared) (u : Value), BindsTo s fd ⟨[u], []⟩ [(x, u)]) ∧ ∀ base : Heap, K.In base → base.Ns mainGlobals mg → FnOk l.prog w K mg base (L2.CX l.prog w) k fa fd [x] sp) :
    PySem.W.WalkO q loose XP YP l.row.toRowW d [] (fun f vs => PySem.call f vs) := by
  refine Att.attach_call hn hdf fun w s₀ s₁ mg mb fa o pm cd doc a vs ns G Y ho hd hcd hmg hobj hints hlen hg => ?_
  obtain ⟨K, sp, KX, hsp, fd, hb, hF⟩ := F w mg fa _ Y G.T.g hmg
  exact law_call KX G.T.g G.T.b G.T.builtins G.T.nolimit hg hobj hints (Nat.le_trans hlen hn2) hr hF hb (fun H hO hS => hsp H a ns hlen hS) fun H e s' h => by
    obtain ⟨_, _, _, _, _, _, _, _, _, _, _, _, z⟩ := h
    exact z
/-- one def's binding of one value -/
theorem fn_of {P : Program} {w : World} {K : PySem.W.Frag} {mg : Str → Option Value} {x qual : Str} {st : Stmt} {f : Addr} {p : Str} {k : Nat} {sp : Sp} (F : DefAt K x qual st f)
    (hb : ∀ (kV doc pm : Value) (an : Option Addr) (cdv ct : Value) (u : Value), bindArgs (PySem.W.fnOf x qual (defArgs st) (defBody st) (defScope st) .none kV doc pm an cdv ct) ⟨[u], []⟩ = pure ([p].zip [u]))
    (N : List Str) (S : FnScope N [p] (defScope st)) (len : ∀ vs H Q E, sp vs H Q E → vs.length = [p].length)
    (hbody : ∀ base (cdv : Value) (A : Around) (outer : List Env) (s : Shared) (H : Hp) (vs : List V) (Q : VK) (E : XK), Room k (A.deeper (envOfC qual (defScope st) s.heap.objs.size f cdv)) → sp vs H Q E →
      ∃ t, PSs (cxOf (L2.CX P w) P w K mg base N qual (defScope st) f cdv A outer s H E) (defBody st) t ∧ t { nx := fun _ H' => Q .non H', rt := Q } (start N vs) H) :
    ∃ fd : FuncData, (∀ (s : Shared) (u : Value), BindsTo s fd ⟨[u], []⟩ [(p, u)]) ∧ ∀ base : Heap, K.In base → base.Ns mainGlobals mg → FnOk P w K mg base (L2.CX P w) (k + 1) f fd [p] sp := by
  obtain ⟨fd, F⟩ := F
  have b := FunD.bindsA (ps := [p]) F fun _ _ _ _ _ _ us hl => match us, hl with | [u], _ => hb _ _ _ _ _ _ u
  exact ⟨fd, fun s v => b s [v] rfl, fun base _ _ => F.ok S len (hbody base)⟩
end RX

/-! str(own object) by its own __str__ -/
namespace RX
open PySem PySem.Spec PyProof.Rows L2
def StrOwn (C : Addr) (sp : Sp) (E : XK) : List V → Hp → VK → Prop := fun xs H Q => ∃ a dx fs, xs = [.ref a] ∧ H a = some (.ins C dx fs) ∧ sp [.ref a] H (fun v H' => (∃ z, v = .str z) ∧ Q v H') E
theorem call_strOwn {X : Cx} {k : Nat} {C f : Addr} {ps : List Str} {sp : Sp} {E : XK} (G : OkD X.prog X.w X.K X.mg X.base k f ps sp) (hr : Room (k + 2) X.A)
    (hs : PySem.W.findIn X.K (.ref C) "__str__" = some (some (.ref f))) (hf : PySem.W.isFn X.K (.ref f) = true) (hx : Passes (L2.CX X.prog X.w) X E) : CallR X (.type "str") (StrOwn C sp E) := by
  intro pins s σ H xs us Q I r h
  obtain ⟨a, dx, fs, rfl, ha, q⟩ := h
  obtain ⟨kp, fd, hb, F⟩ := G
  obtain ⟨u, rfl, hu⟩ := vals1 r
  cases hu
  obtain ⟨mA, J, _⟩ := ins_get I.hok ha
  obtain ⟨od, J, _⟩ := J.look
  have hr2 : Room k X.A.in1.in1 := hr.in1.in1
  refine PySem.W.kso_call hr2.units0 I.kIn J hs hf ?_
  have e0 : Env0 X.prog X.w X.K X.mg X.base X.A.in1.in1 X.stack s H := by
    have e := I.env0
    exact ⟨e.frames, e.mod, e.bs, e.bsz, e.funs, e.frf, e.hok, e.bare⟩
  have hl := F.len _ _ _ _ q
  have r2 : Vals [V.ref a] [Value.ref a] := .cons rfl .nil
  refine wpAny_call (codeAny_mono (F.run X.A.in1.in1 X.stack s H ⟨[.ref a], []⟩ [.ref a] [.ref a] _ E hr2 e0 (by
    have := hb s [.ref a] I.kIn (by simpa using hl)
    simpa using this) r2 q) fun r s' hq => ?_)
  cases r with
  | error e => exact hx pins σ H s e s' I hq
  | ok fl =>
    cases fl with
    | ret w =>
      obtain ⟨z, H', I', rz, ⟨zz, ez⟩, q'⟩ := I.after hq
      subst ez
      obtain ⟨t, rfl⟩ := rz
      exact ⟨.str zz, H', I', ⟨t, rfl⟩, q'⟩
    | next => exact False.elim hq
    | brk => exact False.elim hq
    | cont => exact False.elim hq
section
variable {K : PySem.W.Frag} {σ : L2.St} {H : Hp} {Q : VK} {l b : Addr} {xs zs : List V}
theorem rd_bm {T : String} {r : V → List V → Hp → VK → Prop} {to : TE} {t : TA} (h : to σ H fun x H1 => tyV K T x H1 ∧ t σ H1 fun xs H2 => r x xs H2 Q) : tBM K T r to t σ H Q := h
theorem rd_ap {r : V → List V → Hp → VK → Prop} {t : TA} (h : H l = some (.lst xs)) (k : t σ H fun vs H2 => r (.ref l) vs H2 Q) : tyV K "list" (.ref l) H ∧ t σ H (fun vs H2 => r (.ref l) vs H2 Q) := ⟨.inl ⟨rfl, xs, SqL.of h⟩, k⟩
theorem apd {y : V} (h : H l = some (.lst xs)) (hl : xs.length < 1000000) (k : Q .non (upd H l (.lst (xs ++ [y])))) : rAppend (.ref l) [y] H Q := ⟨l, xs, y, rfl, rfl, h, lt_size hl, k⟩
theorem extd (h : H l = some (.lst xs)) (h2 : H b = some (.lst zs)) (hl : xs.length + zs.length ≤ 1000000) (k : Q .non (upd H l (.lst (xs ++ zs)))) : rExtend (.ref l) [.ref b] H Q := ⟨l, b, xs, zs, rfl, rfl, h, h2, le_size hl, k⟩
theorem rd_revL {te : TE} (h : te σ H fun x H1 => ∃ a xs, x = .ref a ∧ SqL K H1 a xs ∧ ∀ p, H1 p = none → Q (.ref p) (upd H1 p (.lst xs.reverse))) : tRevL K te σ H Q := h
/-- ' '.join(..) of texts -/
theorem joinr {p : Addr} {a : Str} {ys : List Str} {X : PySem.W.Frag} (h1 : SqL X H p (ys.map V.str) ∨ SqT X H p (ys.map V.str)) (hl : (ys.map (·.length)).sum + ys.length * a.length ≤ 16777216) (k : Q (.str (Str.join a ys)) H) :
    ∃ a' p', ∃ zs : List Str, V.str a = .str a' ∧ ([.ref p] : List V) = [.ref p'] ∧ (SqL X H p' (zs.map V.str) ∨ SqT X H p' (zs.map V.str)) ∧ (zs.map (·.length)).sum + zs.length * a'.length ≤ 16777216 ∧ Q (.str (Txt.join a' zs)) H :=
  ⟨a, p, ys, rfl, rfl, h1, hl, by rw [TL.join_eq]; exact k⟩
theorem strOwn {C : Addr} {sp : Sp} {E : XK} {a dx : Addr} {fs : List (Str × V)} (h : H a = some (.ins C dx fs)) (k : sp [.ref a] H (fun v H' => (∃ z, v = .str z) ∧ Q v H') E) : StrOwn C sp E [.ref a] H Q := ⟨a, dx, fs, rfl, h, k⟩
end
end RX

namespace Toy
open PySem PySem.Spec PyProof.Rows L2 RX
/-! the text by places -/
def top (i : Nat) : Stmt := PySem.Challenge.pw_whomay_k08_rows_of_patterns.main.body.getD i (.Pass ⟨0, 0, 0, 0⟩)
abbrev s_is_name : Stmt := top 13
abbrev s_NoName_init : Stmt := inClass (top 3) 0
abbrev s_asked_names : Stmt := top 14
abbrev s_Twice_init : Stmt := inClass (top 5) 0
abbrev s_NoVariable_init : Stmt := inClass (top 6) 0
abbrev s_Loose_init : Stmt := inClass (top 7) 0
abbrev s_Apart_init : Stmt := inClass (top 8) 0
abbrev s_BadCount_init : Stmt := inClass (top 4) 0
abbrev s_asked_once : Stmt := top 15
abbrev s_Pattern_triples : Stmt := inClass (top 24) 1
abbrev s_Pattern_hands : Stmt := inClass (top 24) 2
abbrev s_Rule_triples : Stmt := inClass (top 26) 1
abbrev s_Rule_hands : Stmt := inClass (top 26) 2
abbrev s_asked_texts : Stmt := top 19
abbrev s_asked_variables : Stmt := top 20
abbrev s_asked_together : Stmt := top 21
abbrev s_Pattern_init : Stmt := inClass (top 24) 0
abbrev s_Bar_init : Stmt := inClass (top 25) 0
abbrev s_Rule_init : Stmt := inClass (top 26) 0
abbrev s_Making_init : Stmt := inClass (top 27) 0
abbrev s_variable_part : Stmt := top 22
abbrev s_pattern_parts : Stmt := top 23
abbrev s_Bar_str : Stmt := inClass (top 25) 2
abbrev s_Rule_str : Stmt := inClass (top 26) 4
abbrev s_Making_str : Stmt := inClass (top 27) 2
abbrev s_law_state : Stmt := top 30
abbrev s_law_digit : Stmt := top 31
abbrev s_law_long : Stmt := top 32
abbrev s_law_names : Stmt := top 33
abbrev s_law_variables : Stmt := top 34
abbrev s_law_conditions : Stmt := top 35
abbrev s_law_row : Stmt := top 36
abbrev s_law : Stmt := top 37
abbrev N_is_name : List Str := ["text", "sign"]
theorem sc_is_name : FnScope N_is_name ["text"] (defScope s_is_name) := ⟨rfl, rfl, rfl, by decide +kernel, rfl, by decide +kernel, by decide +kernel⟩
abbrev N_NoName_init : List Str := ["self", "name"]
theorem sc_NoName_init : FnScope N_NoName_init ["self", "name"] (defScope s_NoName_init) := ⟨rfl, rfl, rfl, by decide +kernel, rfl, by decide +kernel, by decide +kernel⟩
abbrev N_asked_names : List Str := ["texts", "text"]
theorem sc_asked_names : FnScope N_asked_names ["texts"] (defScope s_asked_names) := ⟨rfl, rfl, rfl, by decide +kernel, rfl, by decide +kernel, by decide +kernel⟩
abbrev N_Twice_init : List Str := ["self", "name"]
theorem sc_Twice_init : FnScope N_Twice_init ["self", "name"] (defScope s_Twice_init) := ⟨rfl, rfl, rfl, by decide +kernel, rfl, by decide +kernel, by decide +kernel⟩
abbrev N_NoVariable_init : List Str := ["self", "name"]
theorem sc_NoVariable_init : FnScope N_NoVariable_init ["self", "name"] (defScope s_NoVariable_init) := ⟨rfl, rfl, rfl, by decide +kernel, rfl, by decide +kernel, by decide +kernel⟩
abbrev N_Loose_init : List Str := ["self", "name"]
theorem sc_Loose_init : FnScope N_Loose_init ["self", "name"] (defScope s_Loose_init) := ⟨rfl, rfl, rfl, by decide +kernel, rfl, by decide +kernel, by decide +kernel⟩
abbrev N_Apart_init : List Str := ["self", "place"]
theorem sc_Apart_init : FnScope N_Apart_init ["self", "place"] (defScope s_Apart_init) := ⟨rfl, rfl, rfl, by decide +kernel, rfl, by decide +kernel, by decide +kernel⟩
abbrev N_BadCount_init : List Str := ["self", "what", "count"]
theorem sc_BadCount_init : FnScope N_BadCount_init ["self", "what", "count"] (defScope s_BadCount_init) := ⟨rfl, rfl, rfl, by decide +kernel, rfl, by decide +kernel, by decide +kernel⟩
abbrev N_asked_once : List Str := ["names", "seen", "name"]
theorem sc_asked_once : FnScope N_asked_once ["names"] (defScope s_asked_once) := ⟨rfl, rfl, rfl, by decide +kernel, rfl, by decide +kernel, by decide +kernel⟩
abbrev N_Pattern_triples : List Str := ["self"]
theorem sc_Pattern_triples : FnScope N_Pattern_triples ["self"] (defScope s_Pattern_triples) := ⟨rfl, rfl, rfl, by decide +kernel, rfl, by decide +kernel, by decide +kernel⟩
abbrev N_Pattern_hands : List Str := ["self"]
theorem sc_Pattern_hands : FnScope N_Pattern_hands ["self"] (defScope s_Pattern_hands) := ⟨rfl, rfl, rfl, by decide +kernel, rfl, by decide +kernel, by decide +kernel⟩
abbrev N_Rule_triples : List Str := ["self"]
theorem sc_Rule_triples : FnScope N_Rule_triples ["self"] (defScope s_Rule_triples) := ⟨rfl, rfl, rfl, by decide +kernel, rfl, by decide +kernel, by decide +kernel⟩
abbrev N_Rule_hands : List Str := ["self"]
theorem sc_Rule_hands : FnScope N_Rule_hands ["self"] (defScope s_Rule_hands) := ⟨rfl, rfl, rfl, by decide +kernel, rfl, by decide +kernel, by decide +kernel⟩
abbrev N_asked_texts : List Str := ["pattern", "name", "sort", "x", "word", "y"]
theorem sc_asked_texts : FnScope N_asked_texts ["pattern"] (defScope s_asked_texts) := ⟨rfl, rfl, rfl, by decide +kernel, rfl, by decide +kernel, by decide +kernel⟩
abbrev N_asked_variables : List Str := ["pattern", "names", "x", "word", "y", "one", "name", "sort"]
theorem sc_asked_variables : FnScope N_asked_variables ["pattern"] (defScope s_asked_variables) := ⟨rfl, rfl, rfl, by decide +kernel, rfl, by decide +kernel, by decide +kernel⟩
abbrev N_asked_together : List Str := ["pattern", "known", "x", "word", "y", "name", "sort", "seen", "place"]
theorem sc_asked_together : FnScope N_asked_together ["pattern"] (defScope s_asked_together) := ⟨rfl, rfl, rfl, by decide +kernel, rfl, by decide +kernel, by decide +kernel⟩
abbrev N_Pattern_init : List Str := ["self", "name", "variables", "conditions", "one", "sort", "x", "word", "y"]
theorem sc_Pattern_init : FnScope N_Pattern_init ["self", "name", "variables", "conditions"] (defScope s_Pattern_init) := ⟨rfl, rfl, rfl, by decide +kernel, rfl, by decide +kernel, by decide +kernel⟩
abbrev N_Bar_init : List Str := ["self", "name", "variables", "conditions"]
theorem sc_Bar_init : FnScope N_Bar_init ["self", "name", "variables", "conditions"] (defScope s_Bar_init) := ⟨rfl, rfl, rfl, by decide +kernel, rfl, by decide +kernel, by decide +kernel⟩
abbrev N_Rule_init : List Str := ["self", "name", "variables", "conditions", "gives", "by", "x", "word", "y"]
theorem sc_Rule_init : FnScope N_Rule_init ["self", "name", "variables", "conditions", "gives", "by"] (defScope s_Rule_init) := ⟨rfl, rfl, rfl, by decide +kernel, rfl, by decide +kernel, by decide +kernel⟩
abbrev N_Making_init : List Str := ["self", "maker", "made", "down", "up"]
theorem sc_Making_init : FnScope N_Making_init ["self", "maker", "made", "down", "up"] (defScope s_Making_init) := ⟨rfl, rfl, rfl, by decide +kernel, rfl, by decide +kernel, by decide +kernel⟩
abbrev N_variable_part : List Str := ["name", "sort"]
theorem sc_variable_part : FnScope N_variable_part ["name", "sort"] (defScope s_variable_part) := ⟨rfl, rfl, rfl, by decide +kernel, rfl, by decide +kernel, by decide +kernel⟩
abbrev N_pattern_parts : List Str := ["kind", "pattern", "parts", "x", "word", "y", "name", "sort"]
theorem sc_pattern_parts : FnScope N_pattern_parts ["kind", "pattern"] (defScope s_pattern_parts) := ⟨rfl, rfl, rfl, by decide +kernel, rfl, by decide +kernel, by decide +kernel⟩
abbrev N_Bar_str : List Str := ["self"]
theorem sc_Bar_str : FnScope N_Bar_str ["self"] (defScope s_Bar_str) := ⟨rfl, rfl, rfl, by decide +kernel, rfl, by decide +kernel, by decide +kernel⟩
abbrev N_Rule_str : List Str := ["self"]
theorem sc_Rule_str : FnScope N_Rule_str ["self"] (defScope s_Rule_str) := ⟨rfl, rfl, rfl, by decide +kernel, rfl, by decide +kernel, by decide +kernel⟩
abbrev N_Making_str : List Str := ["self", "head"]
theorem sc_Making_str : FnScope N_Making_str ["self"] (defScope s_Making_str) := ⟨rfl, rfl, rfl, by decide +kernel, rfl, by decide +kernel, by decide +kernel⟩
abbrev N_law_state : List Str := ["_law_cell"]
theorem sc_law_state : FnScope N_law_state ["_law_cell"] (defScope s_law_state) := ⟨rfl, rfl, rfl, by decide +kernel, rfl, by decide +kernel, by decide +kernel⟩
abbrev N_law_digit : List Str := ["_law_state_here", "_law_base", "_law_found", "_law_more"]
theorem sc_law_digit : FnScope N_law_digit ["_law_state_here", "_law_base"] (defScope s_law_digit) := ⟨rfl, rfl, rfl, by decide +kernel, rfl, by decide +kernel, by decide +kernel⟩
abbrev N_law_long : List Str := ["_law_s", "_law_some", "_law_word", "_law_k"]
theorem sc_law_long : FnScope N_law_long ["_law_s"] (defScope s_law_long) := ⟨rfl, rfl, rfl, by decide +kernel, rfl, by decide +kernel, by decide +kernel⟩
abbrev N_law_names : List Str := ["_law_s", "_law_many", "_law_found", "_law_k", "_law_word"]
theorem sc_law_names : FnScope N_law_names ["_law_s", "_law_many"] (defScope s_law_names) := ⟨rfl, rfl, rfl, by decide +kernel, rfl, by decide +kernel, by decide +kernel⟩
abbrev N_law_variables : List Str := ["_law_s", "_law_found", "_law_name"]
theorem sc_law_variables : FnScope N_law_variables ["_law_s"] (defScope s_law_variables) := ⟨rfl, rfl, rfl, by decide +kernel, rfl, by decide +kernel, by decide +kernel⟩
abbrev N_law_conditions : List Str := ["_law_s", "_law_names_here", "_law_found", "_law_k", "_law_pair", "_law_turned"]
theorem sc_law_conditions : FnScope N_law_conditions ["_law_s", "_law_names_here"] (defScope s_law_conditions) := ⟨rfl, rfl, rfl, by decide +kernel, rfl, by decide +kernel, by decide +kernel⟩
abbrev N_law_row : List Str := ["_law_kind", "_law_name", "_law_variables_here", "_law_conditions_here", "_law_text", "_law_one", "_law_sort", "_law_x", "_law_word", "_law_y"]
theorem sc_law_row : FnScope N_law_row ["_law_kind", "_law_name", "_law_variables_here", "_law_conditions_here"] (defScope s_law_row) := ⟨rfl, rfl, rfl, by decide +kernel, rfl, by decide +kernel, by decide +kernel⟩
abbrev N_law : List Str := ["_law_script", "_law_cell", "_law_s", "_law_name", "_law_variables_here", "_law_names_here", "_law_conditions_here", "_law_turned", "_law_gives", "_law_by", "_law_bar", "_law_rule", "_law_row_here", "_law_down", "_law_up", "_law_making", "_law_parts", "_law_one", "_law_sort"]
theorem sc_law : FnScope N_law ["_law_script"] (defScope s_law) := ⟨rfl, rfl, rfl, by decide +kernel, rfl, by decide +kernel, by decide +kernel⟩
/-! what the top has written -/
structure Txt (K : PySem.W.Frag) (mg : Str → Option Value) : Prop where
  c_Bar : Cls K (He.ga K "Bar")
  c_Making : Cls K (He.ga K "Making")
  c_Rule : Cls K (He.ga K "Rule")
  cf_Pattern_init : PySem.W.findCls K (.ref (He.ga K "Pattern")) (.type "type") "__init__" = some (.val (.ref (He.ma K (He.ga K "Pattern") "__init__")))
  cr_Pattern : ClX.CRead K (He.ga K "Pattern") (.type "type")
  g_Apart : mg "Apart" = some (.ref (He.ga K "Apart"))
  g_BadCount : mg "BadCount" = some (.ref (He.ga K "BadCount"))
  g_Bar : mg "Bar" = some (.ref (He.ga K "Bar"))
  g_Loose : mg "Loose" = some (.ref (He.ga K "Loose"))
  g_Making : mg "Making" = some (.ref (He.ga K "Making"))
  g_NoName : mg "NoName" = some (.ref (He.ga K "NoName"))
  g_NoVariable : mg "NoVariable" = some (.ref (He.ga K "NoVariable"))
  g_Pattern : mg "Pattern" = some (.ref (He.ga K "Pattern"))
  g_Rule : mg "Rule" = some (.ref (He.ga K "Rule"))
  g_Twice : mg "Twice" = some (.ref (He.ga K "Twice"))
  g_asked_names : mg "asked_names" = some (.ref (He.ga K "asked_names"))
  g_asked_once : mg "asked_once" = some (.ref (He.ga K "asked_once"))
  g_asked_texts : mg "asked_texts" = some (.ref (He.ga K "asked_texts"))
  g_asked_together : mg "asked_together" = some (.ref (He.ga K "asked_together"))
  g_asked_variables : mg "asked_variables" = some (.ref (He.ga K "asked_variables"))
  g_is_name : mg "is_name" = some (.ref (He.ga K "is_name"))
  g_law : mg "law" = some (.ref (He.ga K "law"))
  g_law_conditions : mg "_law_conditions" = some (.ref (He.ga K "_law_conditions"))
  g_law_digit : mg "_law_digit" = some (.ref (He.ga K "_law_digit"))
  g_law_long : mg "_law_long" = some (.ref (He.ga K "_law_long"))
  g_law_names : mg "_law_names" = some (.ref (He.ga K "_law_names"))
  g_law_row : mg "_law_row" = some (.ref (He.ga K "_law_row"))
  g_law_state : mg "_law_state" = some (.ref (He.ga K "_law_state"))
  g_law_variables : mg "_law_variables" = some (.ref (He.ga K "_law_variables"))
  g_pattern_parts : mg "pattern_parts" = some (.ref (He.ga K "pattern_parts"))
  g_variable_part : mg "variable_part" = some (.ref (He.ga K "variable_part"))
  m_Bar_hands : Meth K (He.ga K "Bar") "hands" (He.ma K (He.ga K "Bar") "hands")
  m_Bar_str : Meth K (He.ga K "Bar") "__str__" (He.ma K (He.ga K "Bar") "__str__")
  m_Bar_triples : Meth K (He.ga K "Bar") "triples" (He.ma K (He.ga K "Bar") "triples")
  m_Making_str : Meth K (He.ga K "Making") "__str__" (He.ma K (He.ga K "Making") "__str__")
  m_Rule_hands : Meth K (He.ga K "Rule") "hands" (He.ma K (He.ga K "Rule") "hands")
  m_Rule_str : Meth K (He.ga K "Rule") "__str__" (He.ma K (He.ga K "Rule") "__str__")
  m_Rule_triples : Meth K (He.ga K "Rule") "triples" (He.ma K (He.ga K "Rule") "triples")
  mk_Bar : Mk K (He.ga K "Bar") (He.ma K (He.ga K "Bar") "__init__")
  mk_Making : Mk K (He.ga K "Making") (He.ma K (He.ga K "Making") "__init__")
  mk_Rule : Mk K (He.ga K "Rule") (He.ma K (He.ga K "Rule") "__init__")
  n_Apart_place : NoAttr K (He.ga K "Apart") "place"
  n_BadCount_count : NoAttr K (He.ga K "BadCount") "count"
  n_BadCount_what : NoAttr K (He.ga K "BadCount") "what"
  n_Bar_conditions : NoAttr K (He.ga K "Bar") "conditions"
  n_Bar_name : NoAttr K (He.ga K "Bar") "name"
  n_Bar_variables : NoAttr K (He.ga K "Bar") "variables"
  n_Loose_name : NoAttr K (He.ga K "Loose") "name"
  n_Making_down : NoAttr K (He.ga K "Making") "down"
  n_Making_made : NoAttr K (He.ga K "Making") "made"
  n_Making_maker : NoAttr K (He.ga K "Making") "maker"
  n_Making_up : NoAttr K (He.ga K "Making") "up"
  n_NoName_name : NoAttr K (He.ga K "NoName") "name"
  n_NoVariable_name : NoAttr K (He.ga K "NoVariable") "name"
  n_Rule_by : NoAttr K (He.ga K "Rule") "by"
  n_Rule_conditions : NoAttr K (He.ga K "Rule") "conditions"
  n_Rule_gives : NoAttr K (He.ga K "Rule") "gives"
  n_Rule_name : NoAttr K (He.ga K "Rule") "name"
  n_Rule_variables : NoAttr K (He.ga K "Rule") "variables"
  n_Twice_name : NoAttr K (He.ga K "Twice") "name"
  vi_LONGEST : ∃ t, mg "LONGEST" = some (.int 12 t)
  vi_MOST_CONDITIONS : ∃ t, mg "MOST_CONDITIONS" = some (.int 3 t)
  vi_MOST_VARIABLES : ∃ t, mg "MOST_VARIABLES" = some (.int 4 t)
  vs_FIGURES : ∃ t, mg "FIGURES" = some (.str "0123456789" t)
  vs_LETTERS : ∃ t, mg "LETTERS" = some (.str "abcdefghijklmnopqrstuvwxyz" t)
  x_Apart : ExcAt K (He.ga K "Apart") (He.ma K (He.ga K "Apart") "__init__")
  x_BadCount : ExcAt K (He.ga K "BadCount") (He.ma K (He.ga K "BadCount") "__init__")
  x_Loose : ExcAt K (He.ga K "Loose") (He.ma K (He.ga K "Loose") "__init__")
  x_NoName : ExcAt K (He.ga K "NoName") (He.ma K (He.ga K "NoName") "__init__")
  x_NoVariable : ExcAt K (He.ga K "NoVariable") (He.ma K (He.ga K "NoVariable") "__init__")
  x_Twice : ExcAt K (He.ga K "Twice") (He.ma K (He.ga K "Twice") "__init__")
  z_abs : mg "abs" = none
  z_all : mg "all" = none
  z_enumerate : mg "enumerate" = none
  z_int : mg "int" = none
  z_len : mg "len" = none
  z_list : mg "list" = none
  z_max : mg "max" = none
  z_range : mg "range" = none
  z_str : mg "str" = none
  z_tuple : mg "tuple" = none
  d_is_name : DefAt K "is_name" "is_name" s_is_name (He.ga K "is_name")
  d_NoName_init : DefAt K "__init__" "NoName.__init__" s_NoName_init (He.ma K (He.ga K "NoName") "__init__")
  d_asked_names : DefAt K "asked_names" "asked_names" s_asked_names (He.ga K "asked_names")
  d_Twice_init : DefAt K "__init__" "Twice.__init__" s_Twice_init (He.ma K (He.ga K "Twice") "__init__")
  d_NoVariable_init : DefAt K "__init__" "NoVariable.__init__" s_NoVariable_init (He.ma K (He.ga K "NoVariable") "__init__")
  d_Loose_init : DefAt K "__init__" "Loose.__init__" s_Loose_init (He.ma K (He.ga K "Loose") "__init__")
  d_Apart_init : DefAt K "__init__" "Apart.__init__" s_Apart_init (He.ma K (He.ga K "Apart") "__init__")
  d_BadCount_init : DefAt K "__init__" "BadCount.__init__" s_BadCount_init (He.ma K (He.ga K "BadCount") "__init__")
  d_asked_once : DefAt K "asked_once" "asked_once" s_asked_once (He.ga K "asked_once")
  d_Pattern_triples : DefAt K "triples" "Pattern.triples" s_Pattern_triples (He.ma K (He.ga K "Bar") "triples")
  d_Pattern_hands : DefAt K "hands" "Pattern.hands" s_Pattern_hands (He.ma K (He.ga K "Bar") "hands")
  d_Rule_triples : DefAt K "triples" "Rule.triples" s_Rule_triples (He.ma K (He.ga K "Rule") "triples")
  d_Rule_hands : DefAt K "hands" "Rule.hands" s_Rule_hands (He.ma K (He.ga K "Rule") "hands")
  d_asked_texts : DefAt K "asked_texts" "asked_texts" s_asked_texts (He.ga K "asked_texts")
  d_asked_variables : DefAt K "asked_variables" "asked_variables" s_asked_variables (He.ga K "asked_variables")
  d_asked_together : DefAt K "asked_together" "asked_together" s_asked_together (He.ga K "asked_together")
  d_Pattern_init : DefAt K "__init__" "Pattern.__init__" s_Pattern_init (He.ma K (He.ga K "Pattern") "__init__")
  d_Bar_init : DefAt K "__init__" "Bar.__init__" s_Bar_init (He.ma K (He.ga K "Bar") "__init__")
  d_Rule_init : DefAt K "__init__" "Rule.__init__" s_Rule_init (He.ma K (He.ga K "Rule") "__init__")
  d_Making_init : DefAt K "__init__" "Making.__init__" s_Making_init (He.ma K (He.ga K "Making") "__init__")
  d_variable_part : DefAt K "variable_part" "variable_part" s_variable_part (He.ga K "variable_part")
  d_pattern_parts : DefAt K "pattern_parts" "pattern_parts" s_pattern_parts (He.ga K "pattern_parts")
  d_Bar_str : DefAt K "__str__" "Bar.__str__" s_Bar_str (He.ma K (He.ga K "Bar") "__str__")
  d_Rule_str : DefAt K "__str__" "Rule.__str__" s_Rule_str (He.ma K (He.ga K "Rule") "__str__")
  d_Making_str : DefAt K "__str__" "Making.__str__" s_Making_str (He.ma K (He.ga K "Making") "__str__")
  d_law_state : DefAt K "_law_state" "_law_state" s_law_state (He.ga K "_law_state")
  d_law_digit : DefAt K "_law_digit" "_law_digit" s_law_digit (He.ga K "_law_digit")
  d_law_long : DefAt K "_law_long" "_law_long" s_law_long (He.ga K "_law_long")
  d_law_names : DefAt K "_law_names" "_law_names" s_law_names (He.ga K "_law_names")
  d_law_variables : DefAt K "_law_variables" "_law_variables" s_law_variables (He.ga K "_law_variables")
  d_law_conditions : DefAt K "_law_conditions" "_law_conditions" s_law_conditions (He.ga K "_law_conditions")
  d_law_row : DefAt K "_law_row" "_law_row" s_law_row (He.ga K "_law_row")
  d_law : DefAt K "law" "law" s_law (He.ga K "law")
end Toy

namespace Toy
open PySem PySem.Spec PyProof.Rows L2 RX
local macro_rules | `(tactic| walk_at "sz") => `(tactic| first
  | exact le_size (by simp only [List.length_cons, List.length_nil]; omega)
  | exact le_size (by omega)
  | (refine le_size ?_; simp only [List.length_cons, List.length_nil, List.length_append, List.length_map] <;> omega))
local macro_rules | `(tactic| walk_at "v") => `(tactic| first
  | with_reducible refine rd_v0 ?_ | with_reducible refine rd_v1 ?_ | with_reducible refine rd_v2 ?_ | with_reducible refine rd_v3 ?_ | with_reducible refine rd_v4 ?_ | with_reducible refine rd_v5 ?_ | with_reducible refine rd_v6 ?_ | with_reducible refine rd_v7 ?_
  | with_reducible refine rd_v8 ?_ | with_reducible refine rd_v9 ?_ | with_reducible refine rd_v10 ?_ | with_reducible refine rd_v11 ?_ | with_reducible refine rd_v12 ?_ | with_reducible refine rd_v13 ?_ | with_reducible refine rd_v14 ?_ | with_reducible refine rd_v15 ?_ | with_reducible refine rd_v16 ?_ | with_reducible refine rd_v17 ?_ | with_reducible refine rd_v18 ?_ | with_reducible refine rd_v19 ?_ | with_reducible refine rd_v20 ?_ | with_reducible refine rd_v21 ?_ | with_reducible refine rd_v22 ?_ | with_reducible refine rd_v23 ?_)
local macro_rules | `(tactic| walk_at "g") => `(tactic| first
  | with_reducible refine rd_g0 ?_ | with_reducible refine rd_g1 ?_ | with_reducible refine rd_g2 ?_ | with_reducible refine rd_g3 ?_ | with_reducible refine rd_g4 ?_ | with_reducible refine rd_g5 ?_ | with_reducible refine rd_g6 ?_ | with_reducible refine rd_g7 ?_
  | with_reducible refine rd_g8 ?_ | with_reducible refine rd_g9 ?_ | with_reducible refine rd_g10 ?_ | with_reducible refine rd_g11 ?_ | with_reducible refine rd_g12 ?_ | with_reducible refine rd_g13 ?_ | with_reducible refine rd_g14 ?_ | with_reducible refine rd_g15 ?_ | with_reducible refine rd_g16 ?_ | with_reducible refine rd_g17 ?_ | with_reducible refine rd_g18 ?_ | with_reducible refine rd_g19 ?_ | with_reducible refine rd_g20 ?_ | with_reducible refine rd_g21 ?_ | with_reducible refine rd_g22 ?_ | with_reducible refine rd_g23 ?_)
local macro_rules | `(tactic| walk_at "r1") => `(tactic| first
  | with_reducible refine rd_op ?_ | with_reducible refine rd_c ?_ | (with_reducible show tVar _ _ _ _; walk_at "v") | (with_reducible show gName _ _ _ _ _; walk_at "g")
  | with_reducible refine rd_seq ?_ | with_reducible refine rd_asg ?_ | with_reducible refine rd_ret ?_ | with_reducible refine rd_retN ?_ | with_reducible refine rd_drop ?_ | with_reducible refine rd_ifS ?_ | with_reducible refine rd_nxt ?_
  | with_reducible refine rd_cb ?_ | with_reducible refine rd_cons ?_ | with_reducible refine rd_nil ?_ | with_reducible refine rd_tup ?_ | with_reducible refine rd_lst ?_
  | with_reducible refine rd_test ?_ | with_reducible refine rd_tb ?_ | with_reducible refine rd_or ?_ | with_reducible refine rd_and ?_ | with_reducible refine rd_not ?_ | with_reducible refine rd_yes ?_ | with_reducible refine rd_chain ?_
  | with_reducible refine rd_orV ?_ | with_reducible refine rd_andV ?_ | with_reducible refine rd_notV ?_ | with_reducible refine rd_if ?_ | with_reducible refine rd_un ?_
  | with_reducible refine rd_bl ?_ | with_reducible refine rd_intE ?_ | with_reducible refine rd_strE ?_ | with_reducible refine rd_I0 ?_ | with_reducible refine rd_addI ?_ | with_reducible refine rd_inS ?_ | with_reducible refine rd_ninS ?_
  | with_reducible refine rd_call ?_ | with_reducible refine rd_callS ?_ | with_reducible refine rd_fld ?_ | with_reducible refine rd_sl ?_ | with_reducible refine rd_part ?_ | with_reducible refine rd_nopart ?_ | with_reducible refine rd_m1 ?_ | with_reducible refine rd_lc ?_ | with_reducible refine rd_umeth ?_ | with_reducible refine rd_meth ?_ | with_reducible refine rd_mkO ?_ | with_reducible refine rd_make ?_ | with_reducible refine rd_xfd ?_ | with_reducible refine rd_bm ?_ | with_reducible refine rd_revL ?_ | with_reducible refine rd_ost ?_ | with_reducible refine rd_sfld ?_ | with_reducible refine rd_enT ?_ | with_reducible refine rd_gstore ?_ | with_reducible refine rd_abs ?_ | with_reducible refine rd_rng1 ?_ | with_reducible refine rd_for ?_
  | with_reducible refine rd_gnil ?_ | with_reducible refine rd_gcons ?_ | with_reducible refine rd_gsub ?_ | with_reducible refine rd_iseq ?_ | with_reducible refine rd_dnew ?_ | with_reducible refine rd_din ?_ | with_reducible refine rd_dnin ?_ | with_reducible refine rd_dput ?_ | with_reducible refine rd_itS ?_
  | with_reducible refine rd_intI ?_ | with_reducible refine rd_intB ?_ | with_reducible refine iteT ?_ | with_reducible refine iteF ?_ | with_reducible refine iteNT ?_ | with_reducible refine iteNF ?_
  | ((with_reducible refine rd_lenS ?h ?_); (case h => walk_at "sz"))
  | ((with_reducible refine rd_conj ?h ?_); (case h => first | walk_at "sz" | rfl)))
local macro_rules | `(tactic| walk_at "rd") => `(tactic| repeat walk_at "r1")

section
variable {P : Program} {w : World} {K : PySem.W.Frag} {mg : Str → Option Value} {base : Heap}
/-! ### names -/
def lets : List Nat := ("abcdefghijklmnopqrstuvwxyz" : Str).cps.toList
def figs : List Nat := ("0123456789" : Str).cps.toList
def hdOk (cs : List Nat) : Bool := match cs with
  | [] => false
  | c :: r => decide ((c :: r).length ≤ 12) && decide (c ∈ lets)
def signOk (d : Nat) : Bool := decide (d ∈ lets) || decide (d ∈ figs)
def isNameL (cs : List Nat) : Bool := hdOk cs && cs.all signOk
def isName (t : Str) : Bool := isNameL t.cps.toList

def sp_is_name (K : PySem.W.Frag) : Sp := fun vs H Q E => ∃ t : Str, vs = [.str t] ∧ t.length ≤ 1000 ∧ ∀ H', Same H H' → Q (.bl (isName t)) H'
theorem ok_is_name (T : Txt K mg) : OkD P w K mg base 1 (He.ga K "is_name") ["text"] (sp_is_name K) := by
  refine OkD.of T.d_is_name sc_is_name (fun _ _ _ _ _ _ us hl => match us, hl with | [_], _ => rfl) (fun vs H Q E h => ?_) (fun cdv A outer s H vs Q E hr h => ?_)
  · obtain ⟨t, rfl, hl, k⟩ := h
    rfl
  · obtain ⟨t, rfl, hl, k⟩ := h
    refine ⟨_, (pss_cons (ps_if (PW.pt (pw_or (pt_not (pt_chain op_le op_le pe_int (pe_callB (kLen (K := K) rfl) (by rfl) T.z_len (by decide +kernel) (pa_cons (pv 0) pa_nil)) (pe_gint T.vi_LONGEST))) (pw_or1 (pt_cmpR (kNin (K := K) rfl) (pe_ix (kIx (K := K) rfl) (pv 0) pe_int (fun _ _ => rfl)) (pe_gstr T.vs_LETTERS) (by rfl))))) (pss_one (ps_ret pe_bl)) pss_nil) (pss_one (ps_ret (pe_callB (kAll (K := K) rfl rfl) (by rfl) T.z_all (by decide +kernel) (pa_cons (pe_lc (own := [("sign", 1)]) rfl sc_is_name.nd (kSeq (K := K) rfl (pv 0)) (blkOk_by (N := N_is_name) (sc := defScope s_is_name) (by decide +kernel)) (fun _ _ _ _ _ => (pg_name (i := 1) sc_is_name.nd rfl (by first | exact Or.inl rfl | exact Or.inr rfl))) (fun _ _ _ _ _ => pts_nil) (fun _ _ _ _ _ => (pe_or (pe_cmpR (kIn (K := K) rfl) (pv 1) (pe_gstr T.vs_LETTERS) (by rfl)) (pe_one (pe_cmpR (kIn (K := K) rfl) (pv 1) (pe_gstr T.vs_FIGURES) (by rfl)))))) pa_nil))))), ?_⟩
    refine rd_start (σ' := [some _, none]) rfl ?_
    refine rd_seq ?_
    have hlen := str_len t
    refine rd_tst (!hdOk t.cps.toList) (fun QB k => ?_) (fun hb => ?_) (fun hb => ?_)
    · walk_at "rd"
      cases e : t.cps.toList with
      | nil =>
        rw [e] at hlen k
        have h1 : decide (1 ≤ (t.length : Int)) = false := decide_eq_false (by rw [hlen, List.length_nil]; omega)
        rw [h1]
        walk_at "rd"
        exact k
      | cons c r =>
        rw [e] at hlen k
        have h1 : decide (1 ≤ (t.length : Int)) = true := decide_eq_true (by rw [hlen, List.length_cons]; omega)
        rw [h1]
        walk_at "rd"
        by_cases h12 : (c :: r).length ≤ 12
        · have h2 : decide ((t.length : Int) ≤ 12) = true := decide_eq_true (by rw [hlen]; omega)
          rw [h2]
          walk_at "rd"
          refine rd_ixS (c := c) (by walk_at "sz") (by rw [e]; exact at_j 0 rfl rfl) ?_
          walk_at "rd"
          have e2 : (!hdOk (c :: r)) = !decide (c ∈ lets) := by
            show (!(decide ((c :: r).length ≤ 12) && decide (c ∈ lets))) = _
            rw [decide_eq_true h12, Bool.true_and]
          rw [e2] at k
          exact k
        · have h2 : decide ((t.length : Int) ≤ 12) = false := decide_eq_false (by rw [hlen]; omega)
          rw [h2]
          walk_at "rd"
          have e2 : (!hdOk (c :: r)) = true := by
            show (!(decide ((c :: r).length ≤ 12) && decide (c ∈ lets))) = _
            rw [decide_eq_false h12, Bool.false_and]
            rfl
          rw [e2] at k
          exact k
    · walk_at "rd"
      have e : isName t = false := by
        unfold isName isNameL
        rw [Bool.not_eq_true'] at hb
        rw [hb]
        rfl
      have k' := k H (Same.refl H)
      rw [e] at k'
      exact k'
    · walk_at "rd"
      refine lc_text (K := K) (fun c => some (.bool (signOk c))) (by omega) (fun c H1 P hc s1 k1 => ?_) (fun D H' ys nD s h d => ?_)
      · show EltP _ _ _ [1] [some (V.str t), none] _ _ _
        refine rd_g1 ?_
        refine ⟨rfl, ?_⟩
        walk_at "rd"
        refine rd_ite (fun h1 => ?_) (fun h1 => ?_)
        · refine k1 (some _) _ (Same.refl _) ?_
          show Dt _ _ _
          have e : signOk c = true := by unfold signOk; rw [show decide (c ∈ lets) = true from h1]; rfl
          rw [e]
          exact .bl true
        · walk_at "rd"
          refine k1 (some _) _ (Same.refl _) ?_
          show Dt _ _ _
          have e : signOk c = decide (c ∈ figs) := by unfold signOk; rw [show decide (c ∈ lets) = false from h1]; rfl
          rw [e]
          exact .bl _
      · have hy : ys = (t.cps.toList.map signOk).map V.bl := DtAll.bls_inv (by rw [List.map_map]; rw [List.filterMap_eq_map'] at d; exact d)
        walk_at "rd"
        refine rd_all (bs := t.cps.toList.map signOk) (.inl (.inl (by rw [h, hy]))) ?_
        have e : (t.cps.toList.map signOk).all id = isName t := by
          unfold isName isNameL
          rw [Bool.not_eq_false'] at hb
          rw [hb, Bool.true_and, List.all_map]
          rfl
        rw [e]
        exact k H' s
end

section
variable {P : Program} {w : World} {K : PySem.W.Frag} {mg : Str → Option Value} {base : Heap}

abbrev cNoName (K : PySem.W.Frag) : Addr := He.ga K "NoName"
def sp_NoName_init (K : PySem.W.Frag) : Sp := spX1 (cNoName K) "name"
theorem ok_NoName_init (T : Txt K mg) : OkD P w K mg base 1 (He.ma K (He.ga K "NoName") "__init__") ["self", "name"] (sp_NoName_init K) := by
  refine OkD.of T.d_NoName_init sc_NoName_init (fun _ _ _ _ _ _ us hl => match us, hl with | [_, _], _ => rfl) (fun vs H Q E h => ?_) (fun cdv A outer s H vs Q E hr h => ?_)
  · obtain ⟨a, n, rfl, ha, k⟩ := h
    rfl
  · obtain ⟨a, n, rfl, ha, k⟩ := h
    refine ⟨_, (pss_one (ps_ost (pv 0) (pv 1))), ?_⟩
    refine rd_start (σ' := [some _, some _]) rfl ?_
    walk_at "rd"
    exact ost1 T.x_NoName.ox T.n_NoName_name ha k
def firstBad (xs : List Str) : Option Str := xs.find? fun x => !isName x
def sp_asked_names (K : PySem.W.Frag) : Sp := fun vs H Q E => ∃ (p : Addr) (xs : List Str), vs = [.ref p] ∧ SqA K H p (xs.map V.str) ∧ (∀ x ∈ xs, x.length ≤ 1000) ∧
  (firstBad xs = none → ∀ H', Same H H' → Q .non H') ∧ (∀ x, firstBad xs = some x → Rz H E (cNoName K) [("name", .str x)])
theorem ok_asked_names (T : Txt K mg) : OkD P w K mg base 3 (He.ga K "asked_names") ["texts"] (sp_asked_names K) := by
  have G_is_name := ok_is_name (P := P) (w := w) (base := base) T
  have G_NoName_init := ok_NoName_init (P := P) (w := w) (base := base) T
  refine OkD.of T.d_asked_names sc_asked_names (fun _ _ _ _ _ _ us hl => match us, hl with | [_], _ => rfl) (fun vs H Q E h => ?_) (fun cdv A outer s H vs Q E hr h => ?_)
  · obtain ⟨p, xs, rfl, hq, hl, k1, k2⟩ := h
    rfl
  · obtain ⟨p, xs, rfl, hq, hl, k1, k2⟩ := h
    refine ⟨_, (pss_one (ps_for (passes_of rfl) rfl (kSeq (K := K) rfl (pv 0)) (pg_name (i := 1) sc_asked_names.nd rfl (by first | exact Or.inl rfl | exact Or.inr rfl)) (pss_one (ps_if (pt_not (pt_val (pe_fn G_is_name (hr.mono (by decide)) rfl T.g_is_name (passes_call (takes_of rfl rfl rfl rfl) (fun _ _ _ _ h => h)) (pa_cons (pv 1) pa_nil)))) (pss_one (ps_raise rfl (takes_of rfl rfl rfl rfl) (pmk_ox T.x_NoName.ox T.x_NoName.ini T.x_NoName.fn G_NoName_init (hr.mono (by decide)) rfl T.g_NoName (pa_cons (pv 1) pa_nil)))) pss_nil)))), ?_⟩
    refine rd_start (σ' := [some _, none]) rfl ?_
    walk_at "rd"
    refine for_seqB (K := K) hq (fun i σ H' => Same H H' ∧ (∃ v, σ = [some (.ref p), v]) ∧ (xs.take i).find? (fun x => !isName x) = none) (Same.refl H) ⟨Same.refl H, ⟨_, rfl⟩, rfl⟩ (fun i σ H' _ h => h.1) ?_ ?_
    · rintro i y σ H' hi ⟨s1, ⟨v, rfl⟩, hn⟩
      obtain ⟨x, hx, rfl⟩ : ∃ x, xs[i]? = some x ∧ y = V.str x := by
        rw [List.getElem?_map] at hi
        cases e : xs[i]? with
        | none => rw [e] at hi; cases hi
        | some x => rw [e] at hi; exact ⟨x, rfl, (Option.some.inj hi).symm⟩
      have hm : x ∈ xs := List.mem_of_getElem? hx
      have ht : xs.take (i + 1) = xs.take i ++ [x] := by rw [List.take_add_one, hx]; rfl
      walk_at "rd"
      refine ⟨x, rfl, hl x hm, fun H2 s2 => ?_⟩
      walk_at "rd"
      cases e : isName x with
      | false =>
        walk_at "rd"
        refine mkX1 ?_
        refine (k2 x ?_).mono (Same.trans s1 s2)
        have e2 : xs = xs.take i ++ ([x] ++ xs.drop (i + 1)) := by rw [← List.append_assoc, ← ht, List.take_append_drop]
        unfold firstBad
        rw [e2, List.find?_append, hn, List.find?_append]
        simp [e]
      | true =>
        walk_at "rd"
        refine ⟨Same.trans s1 s2, ⟨_, rfl⟩, ?_⟩
        rw [ht, List.find?_append, hn]
        simp [e]
    · rintro σ H' ⟨s1, ⟨v, rfl⟩, hn⟩
      walk_at "rd"
      refine k1 ?_ H' s1
      rw [List.length_map, List.take_length] at hn
      exact hn

abbrev cTwice (K : PySem.W.Frag) : Addr := He.ga K "Twice"
def sp_Twice_init (K : PySem.W.Frag) : Sp := spX1 (cTwice K) "name"
theorem ok_Twice_init (T : Txt K mg) : OkD P w K mg base 1 (He.ma K (He.ga K "Twice") "__init__") ["self", "name"] (sp_Twice_init K) := by
  refine OkD.of T.d_Twice_init sc_Twice_init (fun _ _ _ _ _ _ us hl => match us, hl with | [_, _], _ => rfl) (fun vs H Q E h => ?_) (fun cdv A outer s H vs Q E hr h => ?_)
  · obtain ⟨a, n, rfl, ha, k⟩ := h
    rfl
  · obtain ⟨a, n, rfl, ha, k⟩ := h
    refine ⟨_, (pss_one (ps_ost (pv 0) (pv 1))), ?_⟩
    refine rd_start (σ' := [some _, some _]) rfl ?_
    walk_at "rd"
    exact ost1 T.x_Twice.ox T.n_Twice_name ha k

abbrev cNoVariable (K : PySem.W.Frag) : Addr := He.ga K "NoVariable"
def sp_NoVariable_init (K : PySem.W.Frag) : Sp := spX1 (cNoVariable K) "name"
theorem ok_NoVariable_init (T : Txt K mg) : OkD P w K mg base 1 (He.ma K (He.ga K "NoVariable") "__init__") ["self", "name"] (sp_NoVariable_init K) := by
  refine OkD.of T.d_NoVariable_init sc_NoVariable_init (fun _ _ _ _ _ _ us hl => match us, hl with | [_, _], _ => rfl) (fun vs H Q E h => ?_) (fun cdv A outer s H vs Q E hr h => ?_)
  · obtain ⟨a, n, rfl, ha, k⟩ := h
    rfl
  · obtain ⟨a, n, rfl, ha, k⟩ := h
    refine ⟨_, (pss_one (ps_ost (pv 0) (pv 1))), ?_⟩
    refine rd_start (σ' := [some _, some _]) rfl ?_
    walk_at "rd"
    exact ost1 T.x_NoVariable.ox T.n_NoVariable_name ha k

abbrev cLoose (K : PySem.W.Frag) : Addr := He.ga K "Loose"
def sp_Loose_init (K : PySem.W.Frag) : Sp := spX1 (cLoose K) "name"
theorem ok_Loose_init (T : Txt K mg) : OkD P w K mg base 1 (He.ma K (He.ga K "Loose") "__init__") ["self", "name"] (sp_Loose_init K) := by
  refine OkD.of T.d_Loose_init sc_Loose_init (fun _ _ _ _ _ _ us hl => match us, hl with | [_, _], _ => rfl) (fun vs H Q E h => ?_) (fun cdv A outer s H vs Q E hr h => ?_)
  · obtain ⟨a, n, rfl, ha, k⟩ := h
    rfl
  · obtain ⟨a, n, rfl, ha, k⟩ := h
    refine ⟨_, (pss_one (ps_ost (pv 0) (pv 1))), ?_⟩
    refine rd_start (σ' := [some _, some _]) rfl ?_
    walk_at "rd"
    exact ost1 T.x_Loose.ox T.n_Loose_name ha k

abbrev cApart (K : PySem.W.Frag) : Addr := He.ga K "Apart"
def sp_Apart_init (K : PySem.W.Frag) : Sp := spX1 (cApart K) "place"
theorem ok_Apart_init (T : Txt K mg) : OkD P w K mg base 1 (He.ma K (He.ga K "Apart") "__init__") ["self", "place"] (sp_Apart_init K) := by
  refine OkD.of T.d_Apart_init sc_Apart_init (fun _ _ _ _ _ _ us hl => match us, hl with | [_, _], _ => rfl) (fun vs H Q E h => ?_) (fun cdv A outer s H vs Q E hr h => ?_)
  · obtain ⟨a, n, rfl, ha, k⟩ := h
    rfl
  · obtain ⟨a, n, rfl, ha, k⟩ := h
    refine ⟨_, (pss_one (ps_ost (pv 0) (pv 1))), ?_⟩
    refine rd_start (σ' := [some _, some _]) rfl ?_
    walk_at "rd"
    exact ost1 T.x_Apart.ox T.n_Apart_place ha k

abbrev cBadCount (K : PySem.W.Frag) : Addr := He.ga K "BadCount"
def sp_BadCount_init (K : PySem.W.Frag) : Sp := spX2 (cBadCount K) "what" "count"
theorem ok_BadCount_init (T : Txt K mg) : OkD P w K mg base 1 (He.ma K (He.ga K "BadCount") "__init__") ["self", "what", "count"] (sp_BadCount_init K) := by
  refine OkD.of T.d_BadCount_init sc_BadCount_init (fun _ _ _ _ _ _ us hl => match us, hl with | [_, _, _], _ => rfl) (fun vs H Q E h => ?_) (fun cdv A outer s H vs Q E hr h => ?_)
  · obtain ⟨a, n, m, rfl, ha, k⟩ := h
    rfl
  · obtain ⟨a, n, m, rfl, ha, k⟩ := h
    refine ⟨_, (pss_cons (ps_ost (pv 0) (pv 1)) (pss_one (ps_ost (pv 0) (pv 2)))), ?_⟩
    refine rd_start (σ' := [some _, some _, some _]) rfl ?_
    walk_at "rd"
    refine ost1 T.x_BadCount.ox T.n_BadCount_what ha fun d hd hda => ?_
    walk_at "rd"
    refine ost2 T.x_BadCount.ox T.n_BadCount_count upd_same ?_ (by show 1 ≤ 900; decide) (k d hd hda)
    rw [upd_ne hda, upd_same]
end

section
variable {P : Program} {w : World} {K : PySem.W.Frag} {mg : Str → Option Value} {base : Heap}
/-- the first that stands ahead of it already -/
def firstTwice : List Str → List Str → Option Str
  | _, [] => none
  | seen, x :: r => if x ∈ seen then some x else firstTwice (seen ++ [x]) r
theorem firstTwice_app : ∀ (l m seen : List Str), firstTwice seen l = none → firstTwice seen (l ++ m) = firstTwice (seen ++ l) m
  | [], m, seen, _ => by rw [List.nil_append, List.append_nil]
  | x :: r, m, seen, h => by
    have h' : (if x ∈ seen then some x else firstTwice (seen ++ [x]) r) = none := h
    show (if x ∈ seen then some x else firstTwice (seen ++ [x]) (r ++ m)) = _
    by_cases e : x ∈ seen
    · rw [if_pos e] at h'; cases h'
    · rw [if_neg e] at h' ⊢
      rw [firstTwice_app r m _ h', List.append_assoc]
      rfl
/-- a dict that holds just these texts as keys -/
def SeenIs (kvs : List (Key × V)) (seen : List Str) : Prop := kvs.length ≤ seen.length ∧ ∀ x, (valV kvs (Sum.inr x)).isSome = decide (x ∈ seen)
theorem SeenIs.nil : SeenIs [] [] := ⟨Nat.le_refl _, fun x => rfl⟩
theorem SeenIs.put {kvs : List (Key × V)} {seen : List Str} {x : Str} {v : V} (h : SeenIs kvs seen) : SeenIs (putK kvs (Sum.inr x) v) (seen ++ [x]) := by
  refine ⟨?_, fun y => ?_⟩
  · have := h.1
    have hp := putK_length (k := (Sum.inr x : Key)) (v := v) kvs
    rw [List.length_append, List.length_singleton]
    omega
  · rw [valV_put]
    by_cases e : y = x
    · subst e; simp
    · have : (Sum.inr y : Key) ≠ Sum.inr x := fun z => e (Sum.inr.inj z)
      simp [this, e, h.2 y]
def sp_asked_once (K : PySem.W.Frag) : Sp := fun vs H Q E => ∃ (p : Addr) (xs : List Str), vs = [.ref p] ∧ SqA K H p (xs.map V.str) ∧ xs.length ≤ 1000 ∧
  (firstTwice [] xs = none → ∀ H', Same H H' → Q .non H') ∧ (∀ x, firstTwice [] xs = some x → Rz H E (cTwice K) [("name", .str x)])
theorem ok_asked_once (T : Txt K mg) : OkD P w K mg base 3 (He.ga K "asked_once") ["names"] (sp_asked_once K) := by
  have G_Twice_init := ok_Twice_init (P := P) (w := w) (base := base) T
  refine OkD.of T.d_asked_once sc_asked_once (fun _ _ _ _ _ _ us hl => match us, hl with | [_], _ => rfl) (fun vs H Q E h => ?_) (fun cdv A outer s H vs Q E hr h => ?_)
  · obtain ⟨p, xs, rfl, hq, hl, k1, k2⟩ := h
    rfl
  · obtain ⟨p, xs, rfl, hq, hl, k1, k2⟩ := h
    refine ⟨_, (pss_cons (ps_set (i := 1) sc_asked_once.nd rfl (by first | exact Or.inl rfl | exact Or.inr rfl) pe_dnewK) (pss_one (ps_for (passes_of rfl) rfl (kSeq (K := K) rfl (pv 0)) (pg_name (i := 2) sc_asked_once.nd rfl (by first | exact Or.inl rfl | exact Or.inr rfl)) (pss_cons (ps_if (pt_cmp (pc_din (hu_of hr) (pv 2) (pv 1))) (pss_one (ps_raise rfl (takes_of rfl rfl rfl rfl) (pmk_ox T.x_Twice.ox T.x_Twice.ini T.x_Twice.fn G_Twice_init (hr.mono (by decide)) rfl T.g_Twice (pa_cons (pv 2) pa_nil)))) pss_nil) (pss_one (ps_dput (hu_of hr) (pv 1) (pv 2) pe_bl rfl)))))), ?_⟩
    refine rd_start (σ' := [some _, none, none]) rfl ?_
    walk_at "rd"
    refine nw_in fun d H1 nd s1 hd => ?_
    walk_at "rd"
    refine for_seqB (K := K) hq (fun i σ H' => Same H H' ∧ (∃ v, σ = [some (.ref p), some (.ref d), v]) ∧ (∃ kvs, H' d = some (.dK kvs) ∧ SeenIs kvs (xs.take i)) ∧ firstTwice [] (xs.take i) = none) s1 ⟨s1, ⟨_, rfl⟩, ⟨[], hd, .nil⟩, rfl⟩ (fun i σ H' _ h => h.1) ?_ ?_
    · rintro i y σ H' hi ⟨s2, ⟨v, rfl⟩, ⟨kvs, hk, hs⟩, hn⟩
      obtain ⟨x, hx, rfl⟩ := get_map hi
      have ht := take_succ_of hx
      have hlen : (xs.take i).length ≤ 1000 := by rw [List.length_take]; omega
      have hk1 := hs.1
      walk_at "rd"
      refine dinS hk ?_
      rw [hs.2 x]
      walk_at "rd"
      by_cases e : x ∈ xs.take i
      · rw [decide_eq_true e]
        walk_at "rd"
        refine mkX1 ?_
        refine (k2 x ?_).mono s2
        have e2 : xs = xs.take i ++ ([x] ++ xs.drop (i + 1)) := by rw [← List.append_assoc, ← ht, List.take_append_drop]
        rw [e2, firstTwice_app _ _ _ hn]
        show (if x ∈ [] ++ xs.take i then some x else _) = some x
        rw [List.nil_append, if_pos e]
      · rw [decide_eq_false e]
        walk_at "rd"
        refine dputS hk (by omega) ?_
        refine ⟨Same.up s2 nd, ⟨_, rfl⟩, ⟨_, upd_same, ?_⟩, ?_⟩
        · rw [ht]
          exact hs.put
        · rw [ht, firstTwice_app _ _ _ hn]
          show (if x ∈ [] ++ xs.take i then some x else none) = none
          rw [List.nil_append, if_neg e]
    · rintro σ H' ⟨s2, ⟨v, rfl⟩, _, hn⟩
      walk_at "rd"
      refine k1 ?_ H' s2
      rw [List.length_map, List.take_length] at hn
      exact hn
end

section
variable {P : Program} {w : World} {K : PySem.W.Frag} {mg : Str → Option Value} {base : Heap}
/-! ### patterns as data -/
abbrev Trip := Str × Str × Str
def encV (v : Str × Option Str) : PyData := .tuple [.str v.1, match v.2 with | none => .none | some s => .str s]
def encC (c : Trip) : PyData := .tuple [.str c.1, .str c.2.1, .str c.2.2]
abbrev fl (fs : List (Str × V)) (f : Str) : Option V := fs.lookup f
structure Pat where
  name : Str
  vars : List (Str × Option Str)
  conds : List Trip
  ru : Option (Trip × Str)
def Pat.triples (p : Pat) : List Trip := p.conds ++ (p.ru.map Prod.fst).toList
def Pat.hands (p : Pat) : List Str := (p.ru.map Prod.snd).toList
/-- the fields of a pattern -/
structure PatF (H : Hp) (fs : List (Str × V)) (p : Pat) : Prop where
  nm : fl fs "name" = some (V.str p.name)
  va : ∃ (a : Addr) (vv : List V), fl fs "variables" = some (V.ref a) ∧ H a = some (.tup vv) ∧ DtAll H vv (p.vars.map encV)
  ca : ∃ (a : Addr) (cv : List V), fl fs "conditions" = some (V.ref a) ∧ H a = some (.tup cv) ∧ DtAll H cv (p.conds.map encC)
  no1 : fl fs "triples" = none
  no2 : fl fs "hands" = none
  gv : ∀ g y, p.ru = some (g, y) → (∃ a, fl fs "gives" = some (V.ref a) ∧ H a = some (.tup [.str g.1, .str g.2.1, .str g.2.2])) ∧ fl fs "by" = some (V.str y)
theorem PatF.mono {H H' : Hp} {fs : List (Str × V)} {p : Pat} (k : KeepT H H') (h : PatF H fs p) : PatF H' fs p := by
  obtain ⟨h1, ⟨a, vv, h2, h3, h4⟩, ⟨c, cv, h5, h6, h7⟩, h8, h9, h10⟩ := h
  exact ⟨h1, ⟨a, vv, h2, k _ _ h3, h4.mono k⟩, ⟨c, cv, h5, k _ _ h6, h7.mono k⟩, h8, h9, fun g y e => ⟨(h10 g y e).1.imp fun _ z => ⟨z.1, k _ _ z.2⟩, (h10 g y e).2⟩⟩
abbrev cBar (K : PySem.W.Frag) : Addr := He.ga K "Bar"
abbrev cRule (K : PySem.W.Frag) : Addr := He.ga K "Rule"
def patC (K : PySem.W.Frag) (p : Pat) : Addr := match p.ru with
  | none => cBar K
  | some _ => cRule K
def BarAt (K : PySem.W.Frag) (H : Hp) (b : Addr) (p : Pat) : Prop := ∃ dx fs, H b = some (.ins (patC K p) dx fs) ∧ PatF H fs p
theorem clsP {mg : Str → Option Value} {K : PySem.W.Frag} (T : Txt K mg) (p : Pat) : Cls K (patC K p) := by
  unfold patC
  split
  · exact T.c_Bar
  · exact T.c_Rule
theorem nmP {mg : Str → Option Value} {K : PySem.W.Frag} (T : Txt K mg) (p : Pat) : NoAttr K (patC K p) "name" := by
  unfold patC
  split
  · exact T.n_Bar_name
  · exact T.n_Rule_name
theorem vaP {mg : Str → Option Value} {K : PySem.W.Frag} (T : Txt K mg) (p : Pat) : NoAttr K (patC K p) "variables" := by
  unfold patC
  split
  · exact T.n_Bar_variables
  · exact T.n_Rule_variables
theorem coP {mg : Str → Option Value} {K : PySem.W.Frag} (T : Txt K mg) (p : Pat) : NoAttr K (patC K p) "conditions" := by
  unfold patC
  split
  · exact T.n_Bar_conditions
  · exact T.n_Rule_conditions
theorem BarAt.same {K : PySem.W.Frag} {H H' : Hp} {b : Addr} {p : Pat} (s : Same H H') (h : BarAt K H b p) : BarAt K H' b p := by
  obtain ⟨dx, fs, h1, h2⟩ := h
  exact ⟨dx, fs, s _ _ h1, h2.mono (.of s)⟩
theorem encC_inv {H : Hp} {v : V} {c : Trip} (h : Dt H v (encC c)) : ∃ a, v = .ref a ∧ H a = some (.tup [.str c.1, .str c.2.1, .str c.2.2]) := by
  obtain ⟨a, xs, rfl, ha, hx⟩ := h.tup_inv
  obtain ⟨v1, r, rfl, h1, hx⟩ := hx.cons_inv
  obtain ⟨v2, r, rfl, h2, hx⟩ := hx.cons_inv
  obtain ⟨v3, r, rfl, h3, hx⟩ := hx.cons_inv
  cases hx.nil_inv
  rw [h1.str_inv, h2.str_inv, h3.str_inv] at ha
  exact ⟨a, rfl, ha⟩
def oV : Option Str → V
  | none => .non
  | some s => .str s
theorem encV_inv {H : Hp} {v : V} {c : Str × Option Str} (h : Dt H v (encV c)) : ∃ a, v = .ref a ∧ H a = some (.tup [.str c.1, oV c.2]) := by
  obtain ⟨a, xs, rfl, ha, hx⟩ := h.tup_inv
  obtain ⟨v1, r, rfl, h1, hx⟩ := hx.cons_inv
  obtain ⟨v2, r, rfl, h2, hx⟩ := hx.cons_inv
  cases hx.nil_inv
  obtain ⟨n, s⟩ := c
  cases s with
  | none =>
    rw [h1.str_inv, h2.none_inv] at ha
    exact ⟨a, rfl, ha⟩
  | some s =>
    rw [h1.str_inv, h2.str_inv] at ha
    exact ⟨a, rfl, ha⟩

def sp_Pattern_triples (K : PySem.W.Frag) : Sp := fun vs H Q E => ∃ (b : Addr) (p : Pat) (dx : Addr) (fs : List (Str × V)), vs = [.ref b] ∧ H b = some (.ins (cBar K) dx fs) ∧ PatF H fs p ∧
  ∀ q H' ws, Same H H' → H' q = some (.lst ws) → DtAll H' ws (p.conds.map encC) → Q (.ref q) H'
theorem ok_Pattern_triples (T : Txt K mg) : OkD P w K mg base 1 (He.ma K (He.ga K "Bar") "triples") ["self"] (sp_Pattern_triples K) := by
  refine OkD.of T.d_Pattern_triples sc_Pattern_triples (fun _ _ _ _ _ _ us hl => match us, hl with | [_], _ => rfl) (fun vs H Q E h => ?_) (fun cdv A outer s H vs Q E hr h => ?_)
  · obtain ⟨b, p, dx, fs, rfl, hb, hp, k⟩ := h
    rfl
  · obtain ⟨b, p, dx, fs, rfl, hb, hp, k⟩ := h
    refine ⟨_, (pss_one (ps_ret (pe_callTy (kList (K := K) rfl) (by rfl) T.z_list (by decide +kernel) (pa_cons (kFld (K := K) rfl (pv 0)) pa_nil)))), ?_⟩
    obtain ⟨c, cv, h5, h6, h7⟩ := hp.ca
    refine rd_start (σ' := [some _]) rfl ?_
    walk_at "rd"
    refine rd_fldr hb T.c_Bar T.n_Bar_conditions h5 ?_
    walk_at "rd"
    refine rd_listT (.inl (.inl h6)) ?_
    refine nw_in fun q H1 nq s1 hq => ?_
    exact k q H1 cv s1 hq (h7.mono (.of s1))

def sp_Pattern_hands (K : PySem.W.Frag) : Sp := fun vs H Q E => ∃ (b : Addr), vs = [.ref b] ∧ ∀ q H', Same H H' → H' q = some (.lst []) → Q (.ref q) H'
theorem ok_Pattern_hands (T : Txt K mg) : OkD P w K mg base 1 (He.ma K (He.ga K "Bar") "hands") ["self"] (sp_Pattern_hands K) := by
  refine OkD.of T.d_Pattern_hands sc_Pattern_hands (fun _ _ _ _ _ _ us hl => match us, hl with | [_], _ => rfl) (fun vs H Q E h => ?_) (fun cdv A outer s H vs Q E hr h => ?_)
  · obtain ⟨b, rfl, k⟩ := h
    rfl
  · obtain ⟨b, rfl, k⟩ := h
    refine ⟨_, (pss_one (ps_ret (pe_lst pa_nil))), ?_⟩
    refine rd_start (σ' := [some _]) rfl ?_
    walk_at "rd"
    refine nw_in fun q H1 nq s1 hq => ?_
    exact k q H1 s1 hq

def sp_Rule_triples (K : PySem.W.Frag) : Sp := fun vs H Q E => ∃ (b : Addr) (p : Pat) (g : Trip) (y : Str) (dx : Addr) (fs : List (Str × V)), vs = [.ref b] ∧ H b = some (.ins (cRule K) dx fs) ∧ PatF H fs p ∧ p.ru = some (g, y) ∧ p.conds.length ≤ 1000 ∧
  ∀ q H' ws, Same H H' → H' q = some (.lst ws) → DtAll H' ws ((p.conds ++ [g]).map encC) → Q (.ref q) H'
theorem ok_Rule_triples (T : Txt K mg) : OkD P w K mg base 1 (He.ma K (He.ga K "Rule") "triples") ["self"] (sp_Rule_triples K) := by
  refine OkD.of T.d_Rule_triples sc_Rule_triples (fun _ _ _ _ _ _ us hl => match us, hl with | [_], _ => rfl) (fun vs H Q E h => ?_) (fun cdv A outer s H vs Q E hr h => ?_)
  · obtain ⟨b, p, g, y, dx, fs, rfl, hb, hp, hr0, hl, k⟩ := h
    rfl
  · obtain ⟨b, p, g, y, dx, fs, rfl, hb, hp, hr0, hl, k⟩ := h
    refine ⟨_, (pss_one (ps_ret (pe_op (kAdd (K := K) rfl) (pe_callTy (kList (K := K) rfl) (by rfl) T.z_list (by decide +kernel) (pa_cons (kFld (K := K) rfl (pv 0)) pa_nil)) (pe_lst (pa_cons (kFld (K := K) rfl (pv 0)) pa_nil))))), ?_⟩
    obtain ⟨c, cv, h5, h6, h7⟩ := hp.ca
    obtain ⟨⟨ga, g1, g2⟩, _⟩ := hp.gv g y hr0
    refine rd_start (σ' := [some _]) rfl ?_
    walk_at "rd"
    refine rd_fldr hb T.c_Rule T.n_Rule_conditions h5 ?_
    walk_at "rd"
    refine rd_listT (.inl (.inl h6)) ?_
    refine nw_in fun q H1 nq s1 hq => ?_
    walk_at "rd"
    refine rd_fldr (s1 _ _ hb) T.c_Rule T.n_Rule_gives g1 ?_
    walk_at "rd"
    refine nw_in fun q2 H2 n2 s2 h2 => ?_
    refine rd_addL (.inl (.inl (s2 _ _ hq))) (.inl (.inl h2)) (le_size (by rw [h7.length, List.length_map, List.length_singleton]; omega)) ?_
    refine nw_in fun q3 H3 n3 s3 h3 => ?_
    have s13 := Same.trans s1 (Same.trans s2 s3)
    refine k q3 H3 _ s13 h3 ?_
    rw [List.map_append]
    exact (h7.mono (.of s13)).append (.cons (.tup (s13 _ _ g2) (.cons (.str _) (.cons (.str _) (.cons (.str _) .nil)))) .nil)

def sp_Rule_hands (K : PySem.W.Frag) : Sp := fun vs H Q E => ∃ (b : Addr) (p : Pat) (g : Trip) (y : Str) (dx : Addr) (fs : List (Str × V)), vs = [.ref b] ∧ H b = some (.ins (cRule K) dx fs) ∧ PatF H fs p ∧ p.ru = some (g, y) ∧
  ∀ q H', Same H H' → H' q = some (.lst [.str y]) → Q (.ref q) H'
theorem ok_Rule_hands (T : Txt K mg) : OkD P w K mg base 1 (He.ma K (He.ga K "Rule") "hands") ["self"] (sp_Rule_hands K) := by
  refine OkD.of T.d_Rule_hands sc_Rule_hands (fun _ _ _ _ _ _ us hl => match us, hl with | [_], _ => rfl) (fun vs H Q E h => ?_) (fun cdv A outer s H vs Q E hr h => ?_)
  · obtain ⟨b, p, g, y, dx, fs, rfl, hb, hp, hr0, k⟩ := h
    rfl
  · obtain ⟨b, p, g, y, dx, fs, rfl, hb, hp, hr0, k⟩ := h
    refine ⟨_, (pss_one (ps_ret (pe_lst (pa_cons (kFld (K := K) rfl (pv 0)) pa_nil)))), ?_⟩
    obtain ⟨_, g1⟩ := hp.gv g y hr0
    refine rd_start (σ' := [some _]) rfl ?_
    walk_at "rd"
    refine rd_fldr hb T.c_Rule T.n_Rule_by g1 ?_
    walk_at "rd"
    refine nw_in fun q H1 nq s1 hq => ?_
    exact k q H1 s1 hq
end

section
variable {P : Program} {w : World} {K : PySem.W.Frag} {mg : Str → Option Value} {base : Heap}
/-! the two methods, of a bar or of a rule -/
theorem patC_bar {K : PySem.W.Frag} {p : Pat} (h : p.ru = none) : patC K p = cBar K := by unfold patC; rw [h]
theorem patC_rule {K : PySem.W.Frag} {p : Pat} {z : Trip × Str} (h : p.ru = some z) : patC K p = cRule K := by unfold patC; rw [h]
theorem call_triples {K : PySem.W.Frag} {te : TE} {E : XK} {H : Hp} {Q : VK} {σ : L2.St} {p : Pat} {b : Addr} (hb : BarAt K H b p) (hl : p.conds.length ≤ 1000) (hv : ∀ P : VK, P (.ref b) H → te σ H P)
    (k : ∀ q H' ws, Same H H' → H' q = some (.lst ws) → DtAll H' ws (p.triples.map encC) → Q (.ref q) H') :
    tMeth (cBar K) "triples" (sp_Pattern_triples K) [] E te tNil σ H Q ∨ tMeth (cRule K) "triples" (sp_Rule_triples K) [] E te tNil σ H Q := by
  obtain ⟨dx, fs, hi, hp⟩ := hb
  cases e : p.ru with
  | none =>
    rw [patC_bar e] at hi
    refine .inl (rd_meth (hv _ ⟨b, dx, fs, rfl, hi, hp.no1, rd_nil ⟨b, p, dx, fs, rfl, hi, hp, fun q H' ws s h d => k q H' ws s h ?_⟩⟩))
    unfold Pat.triples
    rw [e]
    simpa using d
  | some z =>
    rw [patC_rule e] at hi
    refine .inr (rd_meth (hv _ ⟨b, dx, fs, rfl, hi, hp.no1, rd_nil ⟨b, p, z.1, z.2, dx, fs, rfl, hi, hp, e, hl, fun q H' ws s h d => k q H' ws s h ?_⟩⟩))
    unfold Pat.triples
    rw [e]
    exact d
theorem call_hands {K : PySem.W.Frag} {te : TE} {E : XK} {H : Hp} {Q : VK} {σ : L2.St} {p : Pat} {b : Addr} (hb : BarAt K H b p) (hv : ∀ P : VK, P (.ref b) H → te σ H P)
    (k : ∀ q H', Same H H' → H' q = some (.lst (p.hands.map V.str)) → Q (.ref q) H') :
    tMeth (cBar K) "hands" (sp_Pattern_hands K) [] E te tNil σ H Q ∨ tMeth (cRule K) "hands" (sp_Rule_hands K) [] E te tNil σ H Q := by
  obtain ⟨dx, fs, hi, hp⟩ := hb
  cases e : p.ru with
  | none =>
    rw [patC_bar e] at hi
    refine .inl (rd_meth (hv _ ⟨b, dx, fs, rfl, hi, hp.no2, rd_nil ⟨b, rfl, fun q H' s h => k q H' s ?_⟩⟩))
    unfold Pat.hands
    rw [e]
    exact h
  | some z =>
    rw [patC_rule e] at hi
    refine .inr (rd_meth (hv _ ⟨b, dx, fs, rfl, hi, hp.no2, rd_nil ⟨b, p, z.1, z.2, dx, fs, rfl, hi, hp, e, fun q H' s h => k q H' s ?_⟩⟩))
    unfold Pat.hands
    rw [e]
    exact h
/-- all texts of a pattern that must be names, in order -/
def Pat.texts (p : Pat) (trip : List Trip) : List Str := [p.name] ++ ((p.vars.flatMap fun v => v.1 :: v.2.toList) ++ trip.map fun t => t.2.1)
def Pat.short (p : Pat) : Prop := (∀ x ∈ p.texts p.triples, x.length ≤ 1000) ∧ p.vars.length ≤ 1000 ∧ p.conds.length ≤ 1000 ∧ True
theorem firstBad_app (l m : List Str) : firstBad (l ++ m) = (firstBad l).or (firstBad m) := by
  unfold firstBad
  rw [List.find?_append]
theorem firstBad_none_app {l m : List Str} (h : firstBad l = none) : firstBad (l ++ m) = firstBad m := by rw [firstBad_app, h]; rfl
theorem firstBad_some_app {l m : List Str} {x : Str} (h : firstBad l = some x) : firstBad (l ++ m) = some x := by rw [firstBad_app, h]; rfl
theorem flat_take {α : Type} {f : α → List Str} {l : List α} {i : Nat} {x : α} (h : l[i]? = some x) : l.flatMap f = (l.take i).flatMap f ++ (f x ++ (l.drop (i + 1)).flatMap f) := by
  conv => lhs; rw [← List.take_append_drop (i + 1) l, take_succ_of h]
  simp [List.flatMap_append, List.append_assoc]
theorem tri_len {p : Pat} (h : p.short) : p.triples.length ≤ 1001 := by
  have := h.2.2.1
  unfold Pat.triples
  rw [List.length_append]
  cases p.ru <;> simp <;> omega

def sp_asked_texts (K : PySem.W.Frag) : Sp := fun vs H Q E => ∃ (b : Addr) (p : Pat), vs = [.ref b] ∧ BarAt K H b p ∧ p.short ∧
  (firstBad (p.texts p.triples) = none → ∀ H', Same H H' → Q .non H') ∧ (∀ x, firstBad (p.texts p.triples) = some x → Rz H E (cNoName K) [("name", .str x)])
theorem ok_asked_texts (T : Txt K mg) : OkD P w K mg base 4 (He.ga K "asked_texts") ["pattern"] (sp_asked_texts K) := by
  have G_asked_names := ok_asked_names (P := P) (w := w) (base := base) T
  have G_Pattern_triples := ok_Pattern_triples (P := P) (w := w) (base := base) T
  have G_Rule_triples := ok_Rule_triples (P := P) (w := w) (base := base) T
  refine OkD.of T.d_asked_texts sc_asked_texts (fun _ _ _ _ _ _ us hl => match us, hl with | [_], _ => rfl) (fun vs H Q E h => ?_) (fun cdv A outer s H vs Q E hr h => ?_)
  · obtain ⟨b, p, rfl, hb, hs, k1, k2⟩ := h
    rfl
  · obtain ⟨b, p, rfl, hb, hs, k1, k2⟩ := h
    refine ⟨_, (pss_cons (ps_expr (pe_fn G_asked_names (hr.mono (by decide)) rfl T.g_asked_names (passes_call (takes_of rfl rfl rfl rfl) (fun _ _ _ _ h => h)) (pa_cons (pe_lst (pa_cons (kFld (K := K) rfl (pv 0)) pa_nil)) pa_nil))) (pss_cons (ps_for (passes_of rfl) rfl (kSeq (K := K) rfl (kFld (K := K) rfl (pv 0))) (kGt (K := K) (n := 2) rfl rfl (pgs_cons (pg_name (i := 1) sc_asked_texts.nd rfl (by first | exact Or.inl rfl | exact Or.inr rfl)) (pgs_cons (pg_name (i := 2) sc_asked_texts.nd rfl (by first | exact Or.inl rfl | exact Or.inr rfl)) pgs_nil))) (pss_cons (ps_expr (pe_fn G_asked_names (hr.mono (by decide)) rfl T.g_asked_names (passes_call (takes_of rfl rfl rfl rfl) (fun _ _ _ _ h => h)) (pa_cons (pe_lst (pa_cons (pv 1) pa_nil)) pa_nil))) (pss_one (ps_if (pt_cmpR op_notN (pv 2) pe_non (nomark _)) (pss_one (ps_expr (pe_fn G_asked_names (hr.mono (by decide)) rfl T.g_asked_names (passes_call (takes_of rfl rfl rfl rfl) (fun _ _ _ _ h => h)) (pa_cons (pe_lst (pa_cons (pv 2) pa_nil)) pa_nil)))) pss_nil)))) (pss_one (ps_expr (pe_fn G_asked_names (hr.mono (by decide)) rfl T.g_asked_names (passes_call (takes_of rfl rfl rfl rfl) (fun _ _ _ _ h => h)) (pa_cons (pe_lc (own := [("x", 3), ("word", 4), ("y", 5)]) rfl sc_asked_texts.nd (kSeq (K := K) rfl (pe_alt (pe_mt0 (pv 0) T.c_Bar T.m_Bar_triples G_Pattern_triples (hr.mono (by decide)) (passes_call (takes_of rfl rfl rfl rfl) (fun _ _ _ _ h => h))) (pe_mt0 (pv 0) T.c_Rule T.m_Rule_triples G_Rule_triples (hr.mono (by decide)) (passes_call (takes_of rfl rfl rfl rfl) (fun _ _ _ _ h => h))))) (blkOk_by (N := N_asked_texts) (sc := defScope s_asked_texts) (by decide +kernel)) (fun _ _ _ _ _ => (kGt (K := K) (n := 3) rfl rfl (pgs_cons (pg_name (i := 3) sc_asked_texts.nd rfl (by first | exact Or.inl rfl | exact Or.inr rfl)) (pgs_cons (pg_name (i := 4) sc_asked_texts.nd rfl (by first | exact Or.inl rfl | exact Or.inr rfl)) (pgs_cons (pg_name (i := 5) sc_asked_texts.nd rfl (by first | exact Or.inl rfl | exact Or.inr rfl)) pgs_nil))))) (fun _ _ _ _ _ => pts_nil) (fun _ _ _ _ _ => (pv 4))) pa_nil)))))), ?_⟩
    obtain ⟨dx, fs, hi, hp⟩ := hb
    obtain ⟨va, vv, v1, v2, v3⟩ := hp.va
    have hlen : ∀ x ∈ p.texts p.triples, x.length ≤ 1000 := hs.1
    refine rd_start (σ' := [some _, none, none, none, none, none]) rfl ?_
    walk_at "rd"
    refine rd_fldr hi (clsP T p) (nmP T p) hp.nm ?_
    walk_at "rd"
    refine nw_in fun q H1 nq s1 hq => ?_
    walk_at "rd"
    have l1 : p.name.length ≤ 1000 := hlen _ (by unfold Pat.texts; simp)
    refine ⟨q, [p.name], rfl, .inl (.inl (.inl hq)), by simpa using l1, fun hn1 H2 s2 => ?_, fun x hx => (k2 x (firstBad_some_app hx)).mono s1⟩
    walk_at "rd"
    have s02 := Same.trans s1 s2
    refine rd_fldr (s02 _ _ hi) (clsP T p) (vaP T p) v1 ?_
    refine for_seqB (K := K) (H0 := H) (.inr (.inl (.inl v2))) (fun i σ H' => Same H H' ∧ (∃ u v, σ = [some (.ref b), u, v, none, none, none]) ∧ firstBad ([p.name] ++ (p.vars.take i).flatMap fun v => v.1 :: v.2.toList) = none) s02 ⟨s02, ⟨_, _, rfl⟩, by simpa using hn1⟩ (fun i σ H' _ h => h.1) ?_ ?_
    · rintro i y σ H3 hi3 ⟨s3, ⟨u, v, rfl⟩, hn⟩
      obtain ⟨c, hc, hd⟩ := DtAll.get_map (v3.mono (.of s3)) hi3
      obtain ⟨t, rfl, ht⟩ := encV_inv hd
      have hcm : c ∈ p.vars := List.mem_of_getElem? hc
      have etx : p.texts p.triples = ([p.name] ++ (p.vars.take i).flatMap fun v => v.1 :: v.2.toList) ++ ((c.1 :: c.2.toList) ++ ((p.vars.drop (i + 1)).flatMap (fun v => v.1 :: v.2.toList) ++ p.triples.map fun t => t.2.1)) := by
        unfold Pat.texts
        rw [flat_take hc]
        simp only [List.append_assoc]
      have m1 : c.1 ∈ p.texts p.triples := by rw [etx]; simp
      walk_at "rd"
      refine rd_gtup (.inl (.inl ht)) rfl ?_
      walk_at "rd"
      refine nw_in fun q4 H4 n4 s4 h4 => ?_
      walk_at "rd"
      refine ⟨q4, [c.1], rfl, .inl (.inl (.inl h4)), by simpa using hlen _ m1, fun hn4 H5 s5 => ?_, fun x hx => (k2 x ?_).mono (Same.trans s3 s4)⟩
      · walk_at "rd"
        have s35 := Same.trans s4 s5
        obtain ⟨cn, cs⟩ := c
        cases cs with
        | none =>
          rw [show (!decide (oV ((cn, none) : Str × Option Str).snd = V.non)) = false from rfl]
          walk_at "rd"
          refine ⟨Same.trans s3 s35, ⟨_, _, rfl⟩, ?_⟩
          rw [take_succ_of hc, List.flatMap_append, ← List.append_assoc, firstBad_none_app hn]
          simpa using hn4
        | some z =>
          rw [show (!decide (oV ((cn, some z) : Str × Option Str).snd = V.non)) = true from rfl]
          walk_at "rd"
          have m2 : z ∈ p.texts p.triples := by rw [etx]; simp
          refine nw_in fun q6 H6 n6 s6 h6 => ?_
          walk_at "rd"
          refine ⟨q6, [z], rfl, .inl (.inl (.inl h6)), by simpa using hlen _ m2, fun hn6 H7 s7 => ?_, fun x hx => (k2 x ?_).mono (Same.trans s3 (Same.trans s35 s6))⟩
          · walk_at "rd"
            refine ⟨Same.trans s3 (Same.trans s35 (Same.trans s6 s7)), ⟨_, _, rfl⟩, ?_⟩
            rw [take_succ_of hc, List.flatMap_append, ← List.append_assoc, firstBad_none_app hn]
            have e : ([(cn, some z)] : List (Str × Option Str)).flatMap (fun v => v.1 :: v.2.toList) = [cn] ++ [z] := by simp
            rw [e, firstBad_none_app hn4]
            exact hn6
          · rw [etx, firstBad_none_app hn]
            have e : (((cn, some z) : Str × Option Str).1 :: ((cn, some z) : Str × Option Str).2.toList) = [cn] ++ [z] := rfl
            rw [e, List.append_assoc, firstBad_none_app hn4]
            exact firstBad_some_app hx
      · rw [etx, firstBad_none_app hn]
        exact firstBad_some_app (l := [c.1]) hx
    · rintro σ H3 ⟨s3, ⟨u, v, rfl⟩, hn⟩
      have hvl : vv.length = p.vars.length := by rw [v3.length, List.length_map]
      rw [hvl, List.take_length] at hn
      walk_at "rd"
      refine call_triples ⟨dx, fs, s3 _ _ hi, hp.mono (.of s3)⟩ hs.2.2.1 (fun P h => rd_v0 h) fun q4 H4 ws s4 h4 d4 => ?_
      walk_at "rd"
      refine rd_itL (.inl (.inl h4)) ?_
      refine lc_map (f := fun c => PyData.str c.2.1) walk_list d4 (by have := tri_len hs; omega) (fun H' s => .inl (.inl (s _ _ h4))) (fun c x H5 P hc hx s5 k5 => ?_) (fun D H5 ys nD s5 h5 d5 => ?_)
      · obtain ⟨t, rfl, ht⟩ := encC_inv hx
        refine rd_elt (σ' := [some (.ref b), u, v, none, none, none]) rfl ?_
        refine rd_gtup (.inl (.inl ht)) rfl ?_
        walk_at "rd"
        exact k5 _ H5 (Same.refl _) (.str _)
      · walk_at "rd"
        have s35 := Same.trans s3 (Same.trans s4 s5)
        have ey : ys = (p.triples.map fun t => t.2.1).map V.str := DtAll.strs_inv (by rw [List.map_map]; exact d5)
        have etx : p.texts p.triples = ([p.name] ++ p.vars.flatMap fun v => v.1 :: v.2.toList) ++ p.triples.map fun t => t.2.1 := by
          unfold Pat.texts
          rw [List.append_assoc]
        refine ⟨D, _, rfl, .inl (.inl (.inl (by rw [h5, ey]))), fun x hx => hlen x (by rw [etx]; exact List.mem_append_right _ hx), fun h6 H7 s7 => ?_, fun x hx => (k2 x ?_).mono s35⟩
        · walk_at "rd"
          refine k1 ?_ H7 (Same.trans s35 s7)
          rw [etx, firstBad_none_app hn]
          exact h6
        · rw [etx, firstBad_none_app hn]
          exact hx
end

section
variable {P : Program} {w : World} {K : PySem.W.Frag} {mg : Str → Option Value} {base : Heap}
theorem mem_texts1 {p : Pat} {v : Str × Option Str} (h : v ∈ p.vars) : v.1 ∈ p.texts p.triples := by
  unfold Pat.texts
  exact List.mem_append_right _ (List.mem_append_left _ (List.mem_flatMap.mpr ⟨v, h, List.mem_cons_self⟩))
def Pat.names (p : Pat) : List Str := p.vars.map Prod.fst
def ends (cs : List Trip) : List Str := cs.flatMap fun c => [c.1, c.2.2]
theorem ends_app (a b : List Trip) : ends (a ++ b) = ends a ++ ends b := List.flatMap_append
theorem ends_len (a : List Trip) : (ends a).length = 2 * a.length := by
  unfold ends
  induction a with
  | nil => rfl
  | cons x r ih => rw [List.flatMap_cons, List.length_append, ih, List.length_cons]; simp; omega
def firstOut (p : Pat) : Option Str := (ends p.triples ++ p.hands).find? fun x => !decide (x ∈ p.names)
theorem ends_get {cs : List Trip} {i : Nat} {c : Trip} (h : cs[i]? = some c) : ends cs = ends (cs.take i) ++ ([c.1, c.2.2] ++ ends (cs.drop (i + 1))) := flat_take h
theorem ends_succ {cs : List Trip} {i : Nat} {c : Trip} (h : cs[i]? = some c) : ends (cs.take (i + 1)) = ends (cs.take i) ++ [c.1, c.2.2] := by rw [take_succ_of h, ends_app]; rfl

def sp_asked_variables (K : PySem.W.Frag) : Sp := fun vs H Q E => ∃ (b : Addr) (p : Pat), vs = [.ref b] ∧ BarAt K H b p ∧ p.short ∧
  (firstTwice [] p.names = none → firstOut p = none → ∀ H', Same H H' → Q .non H') ∧ (∀ x, firstTwice [] p.names = some x → Rz H E (cTwice K) [("name", .str x)]) ∧
  (firstTwice [] p.names = none → ∀ x, firstOut p = some x → Rz H E (cNoVariable K) [("name", .str x)])
theorem ok_asked_variables (T : Txt K mg) : OkD P w K mg base 4 (He.ga K "asked_variables") ["pattern"] (sp_asked_variables K) := by
  have G_Pattern_hands := ok_Pattern_hands (P := P) (w := w) (base := base) T
  have G_Rule_hands := ok_Rule_hands (P := P) (w := w) (base := base) T
  have G_NoVariable_init := ok_NoVariable_init (P := P) (w := w) (base := base) T
  have G_Pattern_triples := ok_Pattern_triples (P := P) (w := w) (base := base) T
  have G_Rule_triples := ok_Rule_triples (P := P) (w := w) (base := base) T
  have G_asked_once := ok_asked_once (P := P) (w := w) (base := base) T
  refine OkD.of T.d_asked_variables sc_asked_variables (fun _ _ _ _ _ _ us hl => match us, hl with | [_], _ => rfl) (fun vs H Q E h => ?_) (fun cdv A outer s H vs Q E hr h => ?_)
  · obtain ⟨b, p, rfl, hb, hs, k1, k2, k3⟩ := h
    rfl
  · obtain ⟨b, p, rfl, hb, hs, k1, k2, k3⟩ := h
    refine ⟨_, (pss_cons (ps_setLc (i := 1) (own := [("name", 6), ("sort", 7)]) rfl sc_asked_variables.nd rfl rfl (sw_true rfl rfl rfl (by decide +kernel)) (kSeq (K := K) rfl (kFld (K := K) rfl (pv 0))) (blkOk_by (N := N_asked_variables) (sc := defScope s_asked_variables) (by decide +kernel)) (fun _ _ _ _ _ => (kGt (K := K) (n := 2) rfl rfl (pgs_cons (pg_name (i := 6) sc_asked_variables.nd rfl (by first | exact Or.inl rfl | exact Or.inr rfl)) (pgs_cons (pg_name (i := 7) sc_asked_variables.nd rfl (by first | exact Or.inl rfl | exact Or.inr rfl)) pgs_nil)))) (fun _ _ _ _ _ => pts_nil) (fun _ _ _ _ _ => (pv 6))) (pss_cons (ps_expr (pe_fn G_asked_once (hr.mono (by decide)) rfl T.g_asked_once (passes_call (takes_of rfl rfl rfl rfl) (fun _ _ _ _ h => h)) (pa_cons (pv 1) pa_nil))) (pss_cons (ps_for (passes_of rfl) rfl (kSeq (K := K) rfl (pe_alt (pe_mt0 (pv 0) T.c_Bar T.m_Bar_triples G_Pattern_triples (hr.mono (by decide)) (passes_call (takes_of rfl rfl rfl rfl) (fun _ _ _ _ h => h))) (pe_mt0 (pv 0) T.c_Rule T.m_Rule_triples G_Rule_triples (hr.mono (by decide)) (passes_call (takes_of rfl rfl rfl rfl) (fun _ _ _ _ h => h))))) (kGt (K := K) (n := 3) rfl rfl (pgs_cons (pg_name (i := 2) sc_asked_variables.nd rfl (by first | exact Or.inl rfl | exact Or.inr rfl)) (pgs_cons (pg_name (i := 3) sc_asked_variables.nd rfl (by first | exact Or.inl rfl | exact Or.inr rfl)) (pgs_cons (pg_name (i := 4) sc_asked_variables.nd rfl (by first | exact Or.inl rfl | exact Or.inr rfl)) pgs_nil)))) (pss_one (ps_for (passes_of rfl) rfl (kSeq (K := K) rfl (pe_tup (pa_cons (pv 2) (pa_cons (pv 4) pa_nil)))) (pg_name (i := 5) sc_asked_variables.nd rfl (by first | exact Or.inl rfl | exact Or.inr rfl)) (pss_one (ps_if (pt_cmpR (kNin (K := K) rfl) (pv 5) (pv 1) (by rfl)) (pss_one (ps_raise rfl (takes_of rfl rfl rfl rfl) (pmk_ox T.x_NoVariable.ox T.x_NoVariable.ini T.x_NoVariable.fn G_NoVariable_init (hr.mono (by decide)) rfl T.g_NoVariable (pa_cons (pv 5) pa_nil)))) pss_nil))))) (pss_one (ps_for (passes_of rfl) rfl (kSeq (K := K) rfl (pe_alt (pe_mt0 (pv 0) T.c_Bar T.m_Bar_hands G_Pattern_hands (hr.mono (by decide)) (passes_call (takes_of rfl rfl rfl rfl) (fun _ _ _ _ h => h))) (pe_mt0 (pv 0) T.c_Rule T.m_Rule_hands G_Rule_hands (hr.mono (by decide)) (passes_call (takes_of rfl rfl rfl rfl) (fun _ _ _ _ h => h))))) (pg_name (i := 5) sc_asked_variables.nd rfl (by first | exact Or.inl rfl | exact Or.inr rfl)) (pss_one (ps_if (pt_cmpR (kNin (K := K) rfl) (pv 5) (pv 1) (by rfl)) (pss_one (ps_raise rfl (takes_of rfl rfl rfl rfl) (pmk_ox T.x_NoVariable.ox T.x_NoVariable.ini T.x_NoVariable.fn G_NoVariable_init (hr.mono (by decide)) rfl T.g_NoVariable (pa_cons (pv 5) pa_nil)))) pss_nil))))))), ?_⟩
    obtain ⟨dx, fs, hi, hp⟩ := hb
    obtain ⟨va, vv, v1, v2, v3⟩ := hp.va
    refine rd_start (σ' := [some _, none, none, none, none, none, none, none]) rfl ?_
    walk_at "rd"
    refine rd_fldr hi (clsP T p) (vaP T p) v1 ?_
    refine rd_itT (.inl (.inl v2)) ?_
    have hnl : p.names.length ≤ 1000 := by unfold Pat.names; rw [List.length_map]; exact hs.2.1
    refine lc_map (f := fun c => PyData.str c.1) walk_tup v3 (by have := hs.2.1; omega) (fun H' s => .inl (.inl (s _ _ v2))) (fun c x H5 P hc hx s5 k5 => ?_) (fun D H1 ys nD s1 h1 d1 => ?_)
    · obtain ⟨t, rfl, ht⟩ := encV_inv hx
      refine rd_elt (σ' := [some (.ref b), none, none, none, none, none, none, none]) rfl ?_
      refine rd_gtup (.inl (.inl ht)) rfl ?_
      walk_at "rd"
      exact k5 _ H5 (Same.refl _) (.str _)
    have ey : ys = p.names.map V.str := DtAll.strs_inv (by unfold Pat.names; rw [List.map_map]; exact d1)
    rw [ey] at h1
    walk_at "rd"
    refine ⟨D, p.names, rfl, .inl (.inl (.inl h1)), hnl, fun ht H2 s2 => ?_, fun x hx => (k2 x hx).mono s1⟩
    walk_at "rd"
    have s02 := Same.trans s1 s2
    refine call_triples ⟨dx, fs, s02 _ _ hi, hp.mono (.of s02)⟩ hs.2.2.1 (fun P h => rd_v0 h) fun q4 H4 ws s4 h4 d4 => ?_
    have s14 := Same.trans s2 s4
    have s04 := Same.trans s1 s14
    refine for_seqB (K := K) (H0 := H4) (.inl (.inl (.inl h4))) (fun i σ H' => Same H4 H' ∧ (∃ w1 w2 w3 w4, σ = [some (.ref b), some (.ref D), w1, w2, w3, w4, none, none]) ∧ (ends (p.triples.take i)).find? (fun x => !decide (x ∈ p.names)) = none) (Same.refl _) ⟨Same.refl _, ⟨_, _, _, _, rfl⟩, rfl⟩ (fun i σ H' _ h => h.1) ?_ ?_
    · rintro i y σ H3 hi3 ⟨s3, ⟨w1, w2, w3, w4, rfl⟩, hn⟩
      obtain ⟨c, hc, hd⟩ := DtAll.get_map (d4.mono (.of s3)) hi3
      obtain ⟨t, rfl, ht3⟩ := encC_inv hd
      walk_at "rd"
      refine rd_gtup (.inl (.inl ht3)) rfl ?_
      walk_at "rd"
      refine nw_in fun q5 H5 n5 s5 h5 => ?_
      have hD5 : H5 D = some (.lst (p.names.map V.str)) := s5 _ _ (s3 _ _ (s14 _ _ h1))
      have s45 := Same.trans s3 s5
      refine for_seqB (K := K) (H0 := H5) (xs := [c.1, c.2.2].map V.str) (.inr (.inl (.inl h5))) (fun j σ H' => Same H5 H' ∧ (∃ w1 w2 w3 w4, σ = [some (.ref b), some (.ref D), w1, w2, w3, w4, none, none]) ∧ (([c.1, c.2.2] : List Str).take j).find? (fun x => !decide (x ∈ p.names)) = none) (Same.refl _) ⟨Same.refl _, ⟨_, _, _, _, rfl⟩, rfl⟩ (fun i σ H' _ h => h.1) ?_ ?_
      · rintro j y σ H6 hj6 ⟨s6, ⟨u1, u2, u3, u4, rfl⟩, hm⟩
        obtain ⟨x, hx, rfl⟩ := get_map hj6
        walk_at "rd"
        refine rd_ninStrs (.inl (.inl (.inl (s6 _ _ hD5)))) ?_
        walk_at "rd"
        by_cases e : x ∈ p.names
        · rw [decide_eq_true e]
          walk_at "rd"
          exact ⟨s6, ⟨_, _, _, _, rfl⟩, find_more hx hm (by rw [decide_eq_true e]; rfl)⟩
        · rw [decide_eq_false e]
          walk_at "rd"
          refine mkX1 ?_
          refine (k3 ht x ?_).mono (Same.trans s04 (Same.trans s45 s6))
          have h1 := find_at (p := fun x => !decide (x ∈ p.names)) hx hm (by rw [decide_eq_false e]; rfl)
          unfold firstOut
          rw [List.find?_append, ends_get hc, List.find?_append, hn, List.find?_append, h1]
          rfl
      · rintro σ H6 ⟨s6, ⟨u1, u2, u3, u4, rfl⟩, hm⟩
        refine ⟨Same.trans s45 s6, ⟨_, _, _, _, rfl⟩, ?_⟩
        rw [ends_succ hc, List.find?_append, hn]
        exact hm
    · rintro σ H3 ⟨s3, ⟨w1, w2, w3, w4, rfl⟩, hn⟩
      rw [d4.length, List.length_map, List.take_length] at hn
      walk_at "rd"
      have s03 := Same.trans s04 s3
      refine call_hands ⟨dx, fs, s03 _ _ hi, hp.mono (.of s03)⟩ (fun P h => rd_v0 h) fun q7 H7 s7 h7 => ?_
      have s07 := Same.trans s03 s7
      refine for_seqB (K := K) (H0 := H7) (.inl (.inl (.inl h7))) (fun i σ H' => Same H7 H' ∧ (∃ w1 w2 w3 w4, σ = [some (.ref b), some (.ref D), w1, w2, w3, w4, none, none]) ∧ (p.hands.take i).find? (fun x => !decide (x ∈ p.names)) = none) (Same.refl _) ⟨Same.refl _, ⟨_, _, _, _, rfl⟩, rfl⟩ (fun i σ H' _ h => h.1) ?_ ?_
      · rintro j y σ H6 hj6 ⟨s6, ⟨u1, u2, u3, u4, rfl⟩, hm⟩
        obtain ⟨x, hx, rfl⟩ := get_map hj6
        walk_at "rd"
        have hD6 : H6 D = some (.lst (p.names.map V.str)) := s6 _ _ (s7 _ _ (s3 _ _ (s14 _ _ h1)))
        refine rd_ninStrs (.inl (.inl (.inl hD6))) ?_
        walk_at "rd"
        by_cases e : x ∈ p.names
        · rw [decide_eq_true e]
          walk_at "rd"
          exact ⟨s6, ⟨_, _, _, _, rfl⟩, find_more hx hm (by rw [decide_eq_true e]; rfl)⟩
        · rw [decide_eq_false e]
          walk_at "rd"
          refine mkX1 ?_
          refine (k3 ht x ?_).mono (Same.trans s07 s6)
          have h1 := find_at (p := fun x => !decide (x ∈ p.names)) hx hm (by rw [decide_eq_false e]; rfl)
          unfold firstOut
          rw [List.find?_append, hn, h1]
          rfl
      · rintro σ H8 ⟨s8, ⟨u1, u2, u3, u4, rfl⟩, hm⟩
        rw [List.length_map, List.take_length] at hm
        walk_at "rd"
        refine k1 ht ?_ H8 (Same.trans s07 s8)
        unfold firstOut
        rw [List.find?_append, hn, hm]
        rfl
end

section
variable {P : Program} {w : World} {K : PySem.W.Frag} {mg : Str → Option Value} {base : Heap}
def firstLoose (p : Pat) : Option Str := p.names.find? fun x => !decide (x ∈ ends p.conds)
def apartAt (cs : List Trip) (i : Nat) : Bool := match cs[i]? with
  | some c => decide (0 < i) && (!decide (c.1 ∈ ends (cs.take i)) && !decide (c.2.2 ∈ ends (cs.take i)))
  | none => false
def firstApart (cs : List Trip) : Option Nat := (List.range cs.length).find? (apartAt cs)
theorem range_find {n i : Nat} {p : Nat → Bool} (hi : i < n) (hn : (List.range i).find? p = none) (hp : p i = true) : (List.range n).find? p = some i := by
  have e : List.range n = List.range i ++ ([i] ++ (List.range n).drop (i + 1)) := by
    rw [← List.append_assoc, ← List.range_succ]
    conv => lhs; rw [← List.take_append_drop (i + 1) (List.range n), List.take_range]
    rw [show min (i + 1) n = i + 1 by omega]
  rw [e, List.find?_append, hn, List.find?_append]
  simp [hp]
theorem range_more {i : Nat} {p : Nat → Bool} (hn : (List.range i).find? p = none) (hp : p i = false) : (List.range (i + 1)).find? p = none := by
  rw [List.range_succ, List.find?_append, hn]
  simp [hp]

def sp_asked_together (K : PySem.W.Frag) : Sp := fun vs H Q E => ∃ (b : Addr) (p : Pat), vs = [.ref b] ∧ BarAt K H b p ∧ p.short ∧
  (firstLoose p = none → firstApart p.conds = none → ∀ H', Same H H' → Q .non H') ∧ (∀ x, firstLoose p = some x → Rz H E (cLoose K) [("name", .str x)]) ∧
  (firstLoose p = none → ∀ i, firstApart p.conds = some i → Rz H E (cApart K) [("place", .int (i : Nat))])
theorem ok_asked_together (T : Txt K mg) : OkD P w K mg base 4 (He.ga K "asked_together") ["pattern"] (sp_asked_together K) := by
  have G_Apart_init := ok_Apart_init (P := P) (w := w) (base := base) T
  have G_Loose_init := ok_Loose_init (P := P) (w := w) (base := base) T
  refine OkD.of T.d_asked_together sc_asked_together (fun _ _ _ _ _ _ us hl => match us, hl with | [_], _ => rfl) (fun vs H Q E h => ?_) (fun cdv A outer s H vs Q E hr h => ?_)
  · obtain ⟨b, p, rfl, hb, hs, k1, k2, k3⟩ := h
    rfl
  · obtain ⟨b, p, rfl, hb, hs, k1, k2, k3⟩ := h
    refine ⟨_, (pss_cons (ps_set (i := 1) sc_asked_together.nd rfl (by first | exact Or.inl rfl | exact Or.inr rfl) pe_dnewK) (pss_cons (ps_for (passes_of rfl) rfl (kSeq (K := K) rfl (kFld (K := K) rfl (pv 0))) (kGt (K := K) (n := 3) rfl rfl (pgs_cons (pg_name (i := 2) sc_asked_together.nd rfl (by first | exact Or.inl rfl | exact Or.inr rfl)) (pgs_cons (pg_name (i := 3) sc_asked_together.nd rfl (by first | exact Or.inl rfl | exact Or.inr rfl)) (pgs_cons (pg_name (i := 4) sc_asked_together.nd rfl (by first | exact Or.inl rfl | exact Or.inr rfl)) pgs_nil)))) (pss_cons (ps_dput (hu_of hr) (pv 1) (pv 2) pe_bl rfl) (pss_one (ps_dput (hu_of hr) (pv 1) (pv 4) pe_bl rfl)))) (pss_cons (ps_for (passes_of rfl) rfl (kSeq (K := K) rfl (kFld (K := K) rfl (pv 0))) (kGt (K := K) (n := 2) rfl rfl (pgs_cons (pg_name (i := 5) sc_asked_together.nd rfl (by first | exact Or.inl rfl | exact Or.inr rfl)) (pgs_cons (pg_name (i := 6) sc_asked_together.nd rfl (by first | exact Or.inl rfl | exact Or.inr rfl)) pgs_nil))) (pss_one (ps_if (pt_cmp (pc_dnotin (hu_of hr) (pv 5) (pv 1))) (pss_one (ps_raise rfl (takes_of rfl rfl rfl rfl) (pmk_ox T.x_Loose.ox T.x_Loose.ini T.x_Loose.fn G_Loose_init (hr.mono (by decide)) rfl T.g_Loose (pa_cons (pv 5) pa_nil)))) pss_nil))) (pss_cons (ps_set (i := 7) sc_asked_together.nd rfl (by first | exact Or.inl rfl | exact Or.inr rfl) pe_dnewK) (pss_one (ps_for (passes_of rfl) rfl (pi_alt (pi_enum rfl T.z_enumerate (pa_cons (kFld (K := K) rfl (pv 0)) pa_nil)) (pi_enumT rfl T.z_enumerate (pa_cons (kFld (K := K) rfl (pv 0)) pa_nil))) (kGt (K := K) (n := 2) rfl rfl (pgs_cons (pg_name (i := 8) sc_asked_together.nd rfl (by first | exact Or.inl rfl | exact Or.inr rfl)) (pgs_cons (kGt (K := K) (n := 3) rfl rfl (pgs_cons (pg_name (i := 2) sc_asked_together.nd rfl (by first | exact Or.inl rfl | exact Or.inr rfl)) (pgs_cons (pg_name (i := 3) sc_asked_together.nd rfl (by first | exact Or.inl rfl | exact Or.inr rfl)) (pgs_cons (pg_name (i := 4) sc_asked_together.nd rfl (by first | exact Or.inl rfl | exact Or.inr rfl)) pgs_nil)))) pgs_nil))) (pss_cons (ps_if (PW.pt (pw_and (pt_cmpR op_gt (pv 8) pe_int (nomark _)) (pw_and (pt_cmp (pc_dnotin (hu_of hr) (pv 2) (pv 7))) (pw_and1 (pt_cmp (pc_dnotin (hu_of hr) (pv 4) (pv 7))))))) (pss_one (ps_raise rfl (takes_of rfl rfl rfl rfl) (pmk_ox T.x_Apart.ox T.x_Apart.ini T.x_Apart.fn G_Apart_init (hr.mono (by decide)) rfl T.g_Apart (pa_cons (pv 8) pa_nil)))) pss_nil) (pss_cons (ps_dput (hu_of hr) (pv 7) (pv 2) pe_bl rfl) (pss_one (ps_dput (hu_of hr) (pv 7) (pv 4) pe_bl rfl)))))))))), ?_⟩
    obtain ⟨dx, fs, hi, hp⟩ := hb
    obtain ⟨va, vv, v1, v2, v3⟩ := hp.va
    obtain ⟨ca, cv, c1, c2, c3⟩ := hp.ca
    have hcl : cv.length = p.conds.length := by rw [c3.length, List.length_map]
    refine rd_start (σ' := [some _, none, none, none, none, none, none, none, none]) rfl ?_
    walk_at "rd"
    refine nw_in fun D1 H1 n1 s1 h1 => ?_
    walk_at "rd"
    refine rd_fldr (s1 _ _ hi) (clsP T p) (coP T p) c1 ?_
    refine for_seqB (K := K) (H0 := H) (.inr (.inl (.inl c2))) (fun i σ H' => Same H H' ∧ (∃ w2 w3 w4, σ = [some (.ref b), some (.ref D1), w2, w3, w4, none, none, none, none]) ∧ ∃ kvs, H' D1 = some (.dK kvs) ∧ SeenIs kvs (ends (p.conds.take i))) s1 ⟨s1, ⟨_, _, _, rfl⟩, [], h1, .nil⟩ (fun i σ H' _ h => h.1) ?_ ?_
    · rintro i y σ H3 hi3 ⟨s3, ⟨w2, w3, w4, rfl⟩, kvs, hk, hsn⟩
      obtain ⟨c, hc, hd⟩ := DtAll.get_map (c3.mono (.of s3)) hi3
      obtain ⟨t, rfl, ht3⟩ := encC_inv hd
      have hkl := hsn.1
      have hil : i < p.conds.length := (List.getElem?_eq_some_iff.mp hc).1
      have hcs := hs.2.2.1
      rw [ends_len, List.length_take] at hkl
      walk_at "rd"
      refine rd_gtup (.inl (.inl ht3)) rfl ?_
      walk_at "rd"
      refine dputS hk (by omega) ?_
      walk_at "rd"
      have l1 := putK_length (k := (Sum.inr c.1 : Key)) (v := .bl true) kvs
      refine dputS upd_same (by omega) ?_
      refine ⟨Same.up (Same.up s3 n1) n1, ⟨_, _, _, rfl⟩, _, upd_same, ?_⟩
      rw [ends_succ hc, show ([c.1, c.2.2] : List Str) = [c.1] ++ [c.2.2] from rfl, ← List.append_assoc]
      exact hsn.put.put
    rintro σ H3 ⟨s3, ⟨w2, w3, w4, rfl⟩, kvs, hk, hsn⟩
    rw [hcl, List.take_length] at hsn
    walk_at "rd"
    refine rd_fldr (s3 _ _ hi) (clsP T p) (vaP T p) v1 ?_
    refine for_seqB (K := K) (H0 := H3) (.inr (.inl (.inl (s3 _ _ v2)))) (fun i σ H' => Same H3 H' ∧ (∃ w2 w3 w4 w5 w6, σ = [some (.ref b), some (.ref D1), w2, w3, w4, w5, w6, none, none]) ∧ ((p.vars.map Prod.fst).take i).find? (fun x => !decide (x ∈ ends p.conds)) = none) (Same.refl _) ⟨Same.refl _, ⟨_, _, _, _, _, rfl⟩, rfl⟩ (fun i σ H' _ h => h.1) ?_ ?_
    · rintro i y σ H4 hi4 ⟨s4, ⟨w2, w3, w4, w5, w6, rfl⟩, hn⟩
      obtain ⟨c, hc, hd⟩ := DtAll.get_map (v3.mono (.of (Same.trans s3 s4))) hi4
      obtain ⟨t, rfl, ht⟩ := encV_inv hd
      have hcn : (p.vars.map Prod.fst)[i]? = some c.1 := by rw [List.getElem?_map, hc]; rfl
      walk_at "rd"
      refine rd_gtup (.inl (.inl ht)) rfl ?_
      walk_at "rd"
      refine dninS (s4 _ _ hk) ?_
      rw [hsn.2 c.1]
      walk_at "rd"
      by_cases e : c.1 ∈ ends p.conds
      · rw [decide_eq_true e]
        walk_at "rd"
        exact ⟨s4, ⟨_, _, _, _, _, rfl⟩, find_more hcn hn (by rw [decide_eq_true e]; rfl)⟩
      · rw [decide_eq_false e]
        walk_at "rd"
        refine mkX1 ?_
        exact (k2 c.1 (find_at (p := fun x => !decide (x ∈ ends p.conds)) hcn hn (by rw [decide_eq_false e]; rfl))).mono (Same.trans s3 s4)
    rintro σ H4 ⟨s4, ⟨w2, w3, w4, w5, w6, rfl⟩, hn⟩
    have hlo : firstLoose p = none := find_all (by rw [v3.length, List.length_map]; unfold Pat.names; rw [List.length_map]) hn
    walk_at "rd"
    refine nw_in fun D2 H5 n2 s5 h5 => ?_
    have s05 := Same.trans s3 (Same.trans s4 s5)
    have n02 : H D2 = none := by
      cases e : H D2 with
      | none => rfl
      | some o => rw [Same.trans s3 s4 _ _ e] at n2; cases n2
    walk_at "rd"
    refine .inr (rd_enT ?_)
    walk_at "rd"
    refine rd_fldr (s05 _ _ hi) (clsP T p) (coP T p) c1 ?_
    walk_at "rd"
    refine ⟨ca, cv, rfl, .inl (.inl (s05 _ _ c2)), ?_⟩
    refine for_enT (K := K) (H0 := H) (.inl (.inl c2)) (fun i σ H' => Same H H' ∧ (∃ w2 w3 w4 w5 w6 w8, σ = [some (.ref b), some (.ref D1), w2, w3, w4, w5, w6, some (.ref D2), w8]) ∧ (∃ kvs, H' D2 = some (.dK kvs) ∧ SeenIs kvs (ends (p.conds.take i))) ∧ (List.range i).find? (apartAt p.conds) = none) ⟨s05, ⟨_, _, _, _, _, _, rfl⟩, ⟨[], h5, .nil⟩, rfl⟩ (fun i σ H' _ h => h.1) ?_ ?_
    · rintro i y TT σ H6 hi6 ⟨s6, ⟨w2, w3, w4, w5, w6, w8, rfl⟩, ⟨kvs, hk, hsn⟩, ha⟩ hT
      obtain ⟨c, hc, hd⟩ := DtAll.get_map (c3.mono (.of s6)) hi6
      obtain ⟨t, rfl, ht3⟩ := encC_inv hd
      have hkl := hsn.1
      have hil : i < p.conds.length := (List.getElem?_eq_some_iff.mp hc).1
      have hcs := hs.2.2.1
      rw [ends_len, List.length_take] at hkl
      have s7 : Same H6 (upd H6 TT (.tup [.int (i : Nat), .ref t])) := Same.nw hT
      have s07 := Same.trans s6 s7
      walk_at "rd"
      refine rd_gtup (.inl (.inl upd_same)) rfl ?_
      walk_at "rd"
      refine rd_gtup (.inl (.inl (s7 _ _ ht3))) rfl ?_
      iterate 9 walk_at "r1"
      have hap : apartAt p.conds i = (decide (0 < i) && (!decide (c.1 ∈ ends (p.conds.take i)) && !decide (c.2.2 ∈ ends (p.conds.take i)))) := by
        unfold apartAt
        rw [hc]
      refine rd_tst (apartAt p.conds i) (fun QB k => ?_) (fun hb => ?_) (fun hb => ?_)
      · walk_at "rd"
        rw [hap] at k
        by_cases e0 : 0 < i
        · rw [show decide ((0 : Int) < (i : Nat)) = true from decide_eq_true (by omega)]
          rw [decide_eq_true e0, Bool.true_and] at k
          walk_at "rd"
          refine dninS (s7 _ _ hk) ?_
          rw [hsn.2 c.1]
          walk_at "rd"
          refine rd_ite (fun e1 => ?_) (fun e1 => ?_)
          · rw [e1, Bool.true_and] at k
            walk_at "rd"
            refine dninS (s7 _ _ hk) ?_
            rw [hsn.2 c.2.2]
            walk_at "rd"
            exact k
          · rw [e1, Bool.false_and] at k
            exact k
        · rw [show decide ((0 : Int) < (i : Nat)) = false from decide_eq_false (by omega)]
          rw [decide_eq_false e0, Bool.false_and] at k
          walk_at "rd"
          exact k
      · walk_at "rd"
        refine mkX1 ?_
        exact (k3 hlo i (range_find hil ha hb)).mono s07
      · walk_at "rd"
        refine dputS (s7 _ _ hk) (by omega) ?_
        walk_at "rd"
        have l1 := putK_length (k := (Sum.inr c.1 : Key)) (v := .bl true) kvs
        refine dputS upd_same (by omega) ?_
        refine ⟨Same.up (Same.up s07 n02) n02, ⟨_, _, _, _, _, _, rfl⟩, ⟨_, upd_same, ?_⟩, range_more ha hb⟩
        rw [ends_succ hc, show ([c.1, c.2.2] : List Str) = [c.1] ++ [c.2.2] from rfl, ← List.append_assoc]
        exact hsn.put.put
    rintro σ H6 ⟨s6, ⟨w2, w3, w4, w5, w6, w8, rfl⟩, _, ha⟩
    walk_at "rd"
    rw [hcl] at ha
    exact k1 hlo ha H6 s6
end

section
variable {P : Program} {w : World} {K : PySem.W.Frag} {mg : Str → Option Value} {base : Heap}
/-! ### what may be wrong with a pattern -/
inductive Fault
  | count (what : Str) (n : Nat)
  | noName (x : Str)
  | twice (x : Str)
  | noVar (x : Str)
  | loose (x : Str)
  | apart (i : Nat)
def Fault.C (K : PySem.W.Frag) : Fault → Addr
  | .count _ _ => cBadCount K
  | .noName _ => cNoName K
  | .twice _ => cTwice K
  | .noVar _ => cNoVariable K
  | .loose _ => cLoose K
  | .apart _ => cApart K
def Fault.fs : Fault → List (Str × V)
  | .count w n => [("count", .int (n : Int)), ("what", .str w)]
  | .noName x => [("name", .str x)]
  | .twice x => [("name", .str x)]
  | .noVar x => [("name", .str x)]
  | .loose x => [("name", .str x)]
  | .apart i => [("place", .int (i : Int))]
def outFault (p : Pat) : Option Fault := ((firstTwice [] p.names).map .twice).or ((firstOut p).map .noVar)
def togFault (p : Pat) : Option Fault := ((firstLoose p).map .loose).or ((firstApart p.conds).map .apart)
def cntFault (what : Str) (n m : Nat) : Option Fault := if 1 ≤ n ∧ n ≤ m then none else some (.count what n)
def patFault (p : Pat) : Option Fault := (cntFault "variables" p.vars.length 4).or ((cntFault "conditions" p.conds.length 3).or (((firstBad (p.texts p.triples)).map .noName).or ((outFault p).or (togFault p))))
theorem or_none {α : Type} {a b : Option α} (h : a.or b = none) : a = none ∧ b = none := by
  cases a with
  | none => exact ⟨rfl, h⟩
  | some x => cases h
theorem or_fst {α : Type} {a b : Option α} {x : α} (h : a = some x) : a.or b = some x := by rw [h]; rfl
theorem or_snd {α : Type} {a b : Option α} {x : α} (h1 : a = none) (h : b = some x) : a.or b = some x := by rw [h1, h]; rfl
theorem map_eq_some_of {α β : Type} {a : Option α} {x : α} {f : α → β} (h : a = some x) : a.map f = some (f x) := by rw [h]; rfl
theorem map_none {α β : Type} {a : Option α} {f : α → β} (h : a.map f = none) : a = none := by
  cases a with
  | none => rfl
  | some x => cases h
theorem dec_in (n m : Nat) : decide (1 ≤ n ∧ n ≤ m) = (decide ((1 : Int) ≤ (n : Nat)) && decide (((n : Nat) : Int) ≤ (m : Nat))) := by
  rw [Bool.eq_iff_iff, Bool.and_eq_true, decide_eq_true_eq, decide_eq_true_eq, decide_eq_true_eq]
  omega
theorem cnt_some {w : Str} {n m : Nat} (h : (!decide (1 ≤ n ∧ n ≤ m)) = true) : cntFault w n m = some (.count w n) := by
  rw [Bool.not_eq_true', decide_eq_false_iff_not] at h
  exact if_neg h
theorem cnt_none {w : Str} {n m : Nat} (h : (!decide (1 ≤ n ∧ n ≤ m)) = false) : cntFault w n m = none := by
  rw [Bool.not_eq_false', decide_eq_true_eq] at h
  exact if_pos h
/-- the fields that a rule has ahead of the pattern's -/
structure IniF (H : Hp) (fs : List (Str × V)) (p : Pat) : Prop where
  len : fs.length ≤ 2
  no1 : fl fs "triples" = none
  no2 : fl fs "hands" = none
  gv : ∀ g y, p.ru = some (g, y) → (∃ a, fl fs "gives" = some (V.ref a) ∧ H a = some (.tup [.str g.1, .str g.2.1, .str g.2.2])) ∧ fl fs "by" = some (V.str y)

/-- of a new Bar -/
def sp_Pattern_init (K : PySem.W.Frag) : Sp := fun vs H Q E => ∃ (b va ca dx : Addr) (vv cv : List V) (p : Pat) (fs0 : List (Str × V)), vs = [.ref b, .str p.name, .ref va, .ref ca] ∧ H b = some (.ins (patC K p) dx fs0) ∧ IniF H fs0 p ∧
  SqA K H va vv ∧ DtAll H vv (p.vars.map encV) ∧ SqA K H ca cv ∧ DtAll H cv (p.conds.map encC) ∧ va ≠ b ∧ ca ≠ b ∧ p.short ∧
  (patFault p = none → ∀ H', Sb b H H' → BarAt K H' b p → Q .non H') ∧ (∀ f, patFault p = some f → RzX b H E (f.C K) f.fs)
theorem ok_Pattern_init (T : Txt K mg) : OkD P w K mg base 6 (He.ma K (He.ga K "Pattern") "__init__") ["self", "name", "variables", "conditions"] (sp_Pattern_init K) := by
  have G_asked_together := ok_asked_together (P := P) (w := w) (base := base) T
  have G_asked_variables := ok_asked_variables (P := P) (w := w) (base := base) T
  have G_asked_texts := ok_asked_texts (P := P) (w := w) (base := base) T
  have G_BadCount_init := ok_BadCount_init (P := P) (w := w) (base := base) T
  refine OkD.of T.d_Pattern_init sc_Pattern_init (fun _ _ _ _ _ _ us hl => match us, hl with | [_, _, _, _], _ => rfl) (fun vs H Q E h => ?_) (fun cdv A outer s H vs Q E hr h => ?_)
  · obtain ⟨b, va, ca, dx, vv, cv, p, fs0, rfl, hb, f0, qv, dv, qc, dc, nv, nc, hs, k1, k2⟩ := h
    rfl
  · obtain ⟨b, va, ca, dx, vv, cv, p, fs0, rfl, hb, f0, qv, dv, qc, dc, nv, nc, hs, k1, k2⟩ := h
    refine ⟨_, (pss_cons (ps_fld (pv 0) (pv 1) rfl) (pss_cons (ps_fld (pv 0) (pe_callTy (kTuple (K := K) rfl) (by rfl) T.z_tuple (by decide +kernel) (pa_cons (pe_lc (own := [("one", 4), ("sort", 5)]) rfl sc_Pattern_init.nd (kSeq (K := K) rfl (pv 2)) (blkOk_by (N := N_Pattern_init) (sc := defScope s_Pattern_init) (by decide +kernel)) (fun _ _ _ _ _ => (kGt (K := K) (n := 2) rfl rfl (pgs_cons (pg_name (i := 4) sc_Pattern_init.nd rfl (by first | exact Or.inl rfl | exact Or.inr rfl)) (pgs_cons (pg_name (i := 5) sc_Pattern_init.nd rfl (by first | exact Or.inl rfl | exact Or.inr rfl)) pgs_nil)))) (fun _ _ _ _ _ => pts_nil) (fun _ _ _ _ _ => (pe_tup (pa_cons (pv 4) (pa_cons (pv 5) pa_nil))))) pa_nil)) rfl) (pss_cons (ps_fld (pv 0) (pe_callTy (kTuple (K := K) rfl) (by rfl) T.z_tuple (by decide +kernel) (pa_cons (pe_lc (own := [("x", 6), ("word", 7), ("y", 8)]) rfl sc_Pattern_init.nd (kSeq (K := K) rfl (pv 3)) (blkOk_by (N := N_Pattern_init) (sc := defScope s_Pattern_init) (by decide +kernel)) (fun _ _ _ _ _ => (kGt (K := K) (n := 3) rfl rfl (pgs_cons (pg_name (i := 6) sc_Pattern_init.nd rfl (by first | exact Or.inl rfl | exact Or.inr rfl)) (pgs_cons (pg_name (i := 7) sc_Pattern_init.nd rfl (by first | exact Or.inl rfl | exact Or.inr rfl)) (pgs_cons (pg_name (i := 8) sc_Pattern_init.nd rfl (by first | exact Or.inl rfl | exact Or.inr rfl)) pgs_nil))))) (fun _ _ _ _ _ => pts_nil) (fun _ _ _ _ _ => (pe_tup (pa_cons (pv 6) (pa_cons (pv 7) (pa_cons (pv 8) pa_nil)))))) pa_nil)) rfl) (pss_cons (ps_if (pt_not (pt_chain op_le op_le pe_int (pe_callB (kLen (K := K) rfl) (by rfl) T.z_len (by decide +kernel) (pa_cons (kFld (K := K) rfl (pv 0)) pa_nil)) (pe_gint T.vi_MOST_VARIABLES))) (pss_one (ps_raise rfl (takes_of rfl rfl rfl rfl) (pmk_ox T.x_BadCount.ox T.x_BadCount.ini T.x_BadCount.fn G_BadCount_init (hr.mono (by decide)) rfl T.g_BadCount (pa_cons pe_str (pa_cons (pe_callB (kLen (K := K) rfl) (by rfl) T.z_len (by decide +kernel) (pa_cons (kFld (K := K) rfl (pv 0)) pa_nil)) pa_nil))))) pss_nil) (pss_cons (ps_if (pt_not (pt_chain op_le op_le pe_int (pe_callB (kLen (K := K) rfl) (by rfl) T.z_len (by decide +kernel) (pa_cons (kFld (K := K) rfl (pv 0)) pa_nil)) (pe_gint T.vi_MOST_CONDITIONS))) (pss_one (ps_raise rfl (takes_of rfl rfl rfl rfl) (pmk_ox T.x_BadCount.ox T.x_BadCount.ini T.x_BadCount.fn G_BadCount_init (hr.mono (by decide)) rfl T.g_BadCount (pa_cons pe_str (pa_cons (pe_callB (kLen (K := K) rfl) (by rfl) T.z_len (by decide +kernel) (pa_cons (kFld (K := K) rfl (pv 0)) pa_nil)) pa_nil))))) pss_nil) (pss_cons (ps_expr (pe_fn G_asked_texts (hr.mono (by decide)) rfl T.g_asked_texts (passes_call (takes_of rfl rfl rfl rfl) (fun _ _ _ _ h => h)) (pa_cons (pv 0) pa_nil))) (pss_cons (ps_expr (pe_fn G_asked_variables (hr.mono (by decide)) rfl T.g_asked_variables (passes_call (takes_of rfl rfl rfl rfl) (fun _ _ _ _ h => h)) (pa_cons (pv 0) pa_nil))) (pss_one (ps_expr (pe_fn G_asked_together (hr.mono (by decide)) rfl T.g_asked_together (passes_call (takes_of rfl rfl rfl rfl) (fun _ _ _ _ h => h)) (pa_cons (pv 0) pa_nil))))))))))), ?_⟩
    refine rd_start (σ' := [some _, some _, some _, some _, none, none, none, none, none]) rfl ?_
    walk_at "rd"
    refine sfldr hb (clsP T p) (nmP T p) (by have := f0.len; omega) ?_
    walk_at "rd"
    refine lc_mapA (f := encV) (qv.sb nv (Sb.up (Sb.refl H))) (dv.mono (Sb.keep hb (fun _ z => by cases z) (Sb.up (Sb.refl H)))) (by have := hs.2.1; omega) (fun c x H5 P hc hx s5 k5 => ?_) (fun D1 H1 ys1 nD1 s1 h1 d1 => ?_)
    · obtain ⟨t, rfl, ht⟩ := encV_inv hx
      refine rd_elt (σ' := [some (.ref b), some (.str p.name), some (.ref va), some (.ref ca), none, none, none, none, none]) rfl ?_
      refine rd_gtup (.inl (.inl ht)) rfl ?_
      walk_at "rd"
      refine nw_in fun q6 H6 n6 s6 h6 => ?_
      refine k5 _ H6 s6 (.tup h6 (.cons (.str _) (.cons ?_ .nil)))
      obtain ⟨cn, cs⟩ := c
      cases cs with
      | none => exact .non
      | some z => exact .str z
    walk_at "rd"
    refine rd_tupL (.inl (.inl h1)) ?_
    refine nw_in fun T1 H2 n2 s2 h2 => ?_
    have hb2 := s2 _ _ (s1 _ _ (upd_same (H := H) (a := b)))
    have b2 : Sb b H H2 := Sb.trans (Sb.up (Sb.refl H)) (Sb.of (Same.trans s1 s2))
    have t1 : T1 ≠ b := fun z => by rw [z] at h2; rw [hb2] at h2; cases h2
    walk_at "rd"
    refine sfldr hb2 (clsP T p) (vaP T p) (Nat.lt_of_le_of_lt (len_putF (n := 2) f0.len) (by decide)) ?_
    walk_at "rd"
    have b3 := Sb.up (o := .ins (patC K p) dx (putF "variables" (.ref T1) (putF "name" (.str p.name) fs0))) b2
    refine lc_mapA (f := encC) (qc.sb nc b3) (dc.mono (Sb.keep hb (fun _ z => by cases z) b3)) (by have := hs.2.2.1; omega) (fun c x H5 P hc hx s5 k5 => ?_) (fun D3 H3 ys3 nD3 s3 h3 d3 => ?_)
    · obtain ⟨t, rfl, ht⟩ := encC_inv hx
      refine rd_elt (σ' := [some (.ref b), some (.str p.name), some (.ref va), some (.ref ca), none, none, none, none, none]) rfl ?_
      refine rd_gtup (.inl (.inl ht)) rfl ?_
      walk_at "rd"
      refine nw_in fun q6 H6 n6 s6 h6 => ?_
      exact k5 _ H6 s6 (.tup h6 (.cons (.str _) (.cons (.str _) (.cons (.str _) .nil))))
    walk_at "rd"
    refine rd_tupL (.inl (.inl h3)) ?_
    refine nw_in fun T2 H4 n4 s4 h4 => ?_
    have hb4 := s4 _ _ (s3 _ _ (upd_same (H := H2) (a := b)))
    have b4 : Sb b H H4 := Sb.trans b3 (Sb.of (Same.trans s3 s4))
    have t2 : T2 ≠ b := fun z => by rw [z] at h4; rw [hb4] at h4; cases h4
    walk_at "rd"
    refine sfldr hb4 (clsP T p) (coP T p) (Nat.lt_of_le_of_lt (len_putF (n := 3) (len_putF (n := 2) f0.len)) (by decide)) ?_
    have b5 := Sb.up (o := .ins (patC K p) dx (putF "conditions" (.ref T2) (putF "variables" (.ref T1) (putF "name" (.str p.name) fs0)))) b4
    have k24 : Sb b H2 H4 := Sb.trans (Sb.up (Sb.refl H2)) (Sb.of (Same.trans s3 s4))
    have kt5 : KeepT H4 (upd H4 b (.ins (patC K p) dx (putF "conditions" (.ref T2) (putF "variables" (.ref T1) (putF "name" (.str p.name) fs0))))) := Sb.keep hb4 (fun _ z => by cases z) (Sb.up (Sb.refl H4))
    have kt2 : KeepT H2 H4 := Sb.keep hb2 (fun _ z => by cases z) k24
    have g1 : upd H4 b (.ins (patC K p) dx (putF "conditions" (.ref T2) (putF "variables" (.ref T1) (putF "name" (.str p.name) fs0)))) T1 = some (.tup ys1) := kt5 _ _ (kt2 _ _ h2)
    have g2 : upd H4 b (.ins (patC K p) dx (putF "conditions" (.ref T2) (putF "variables" (.ref T1) (putF "name" (.str p.name) fs0)))) T2 = some (.tup ys3) := kt5 _ _ h4
    have e1 : DtAll (upd H4 b (.ins (patC K p) dx (putF "conditions" (.ref T2) (putF "variables" (.ref T1) (putF "name" (.str p.name) fs0))))) ys1 (p.vars.map encV) := ((d1.mono (.of s2)).mono kt2).mono kt5
    have e3 : DtAll (upd H4 b (.ins (patC K p) dx (putF "conditions" (.ref T2) (putF "variables" (.ref T1) (putF "name" (.str p.name) fs0))))) ys3 (p.conds.map encC) := (d3.mono (.of s4)).mono kt5
    have ktA := Sb.keep hb (fun _ z => by cases z) b5
    have hB : BarAt K (upd H4 b (.ins (patC K p) dx (putF "conditions" (.ref T2) (putF "variables" (.ref T1) (putF "name" (.str p.name) fs0))))) b p :=
      ⟨dx, _, upd_same, lk_miss (by decide) (lk_miss (by decide) lk_hit), ⟨T1, ys1, lk_miss (by decide) lk_hit, g1, e1⟩, ⟨T2, ys3, lk_hit, g2, e3⟩,
        lk_miss (by decide) (lk_miss (by decide) (lk_miss (by decide) f0.no1)), lk_miss (by decide) (lk_miss (by decide) (lk_miss (by decide) f0.no2)),
        fun g y e => ⟨(f0.gv g y e).1.imp fun x z => ⟨lk_miss (by decide) (lk_miss (by decide) (lk_miss (by decide) z.1)), ktA _ _ z.2⟩, lk_miss (by decide) (lk_miss (by decide) (lk_miss (by decide) (f0.gv g y e).2))⟩⟩
    have hl1 : ys1.length = p.vars.length := by rw [d1.length, List.length_map]
    have hl3 : ys3.length = p.conds.length := by rw [d3.length, List.length_map]
    generalize upd H4 b (.ins (patC K p) dx (putF "conditions" (.ref T2) (putF "variables" (.ref T1) (putF "name" (.str p.name) fs0)))) = H5 at b5 hB g1 g2 e1 e3 ⊢
    clear kt5 ktA
    obtain ⟨dx', fs', i5, p5⟩ := hB
    obtain ⟨va', vv', v1', v2', v3'⟩ := p5.va
    obtain ⟨ca', cv', c1', c2', c3'⟩ := p5.ca
    have hl1' : vv'.length = p.vars.length := by rw [v3'.length, List.length_map]
    have hl3' : cv'.length = p.conds.length := by rw [c3'.length, List.length_map]
    walk_at "r1"
    refine rd_tst (!decide (1 ≤ p.vars.length ∧ p.vars.length ≤ 4)) (fun QB k => ?_) (fun hb4 => ?_) (fun hb4 => ?_)
    · walk_at "rd"
      refine rd_fldr i5 (clsP T p) (vaP T p) v1' ?_
      walk_at "rd"
      refine rd_lenT (.inl (.inl v2')) ?_
      rw [hl1']
      walk_at "rd"
      rw [dec_in] at k
      refine rd_ite (fun e1 => ?_) (fun e1 => ?_)
      · rw [e1, Bool.true_and] at k
        walk_at "rd"
        exact k
      · rw [e1, Bool.false_and] at k
        walk_at "rd"
        exact k
    · walk_at "rd"
      refine rd_fldr i5 (clsP T p) (vaP T p) v1' ?_
      walk_at "rd"
      refine rd_lenT (.inl (.inl v2')) ?_
      rw [hl1']
      walk_at "rd"
      refine mkX2 ((k2 (.count "variables" p.vars.length) ?_).rz b5)
      exact or_fst (cnt_some hb4)
    walk_at "r1"
    walk_at "r1"
    refine rd_tst (!decide (1 ≤ p.conds.length ∧ p.conds.length ≤ 3)) (fun QB k => ?_) (fun hb3 => ?_) (fun hb3 => ?_)
    · walk_at "rd"
      refine rd_fldr i5 (clsP T p) (coP T p) c1' ?_
      walk_at "rd"
      refine rd_lenT (.inl (.inl c2')) ?_
      rw [hl3']
      walk_at "rd"
      rw [dec_in] at k
      refine rd_ite (fun e1 => ?_) (fun e1 => ?_)
      · rw [e1, Bool.true_and] at k
        walk_at "rd"
        exact k
      · rw [e1, Bool.false_and] at k
        walk_at "rd"
        exact k
    · walk_at "rd"
      refine rd_fldr i5 (clsP T p) (coP T p) c1' ?_
      walk_at "rd"
      refine rd_lenT (.inl (.inl c2')) ?_
      rw [hl3']
      walk_at "rd"
      refine mkX2 ((k2 (.count "conditions" p.conds.length) ?_).rz b5)
      exact or_snd (cnt_none hb4) (or_fst (cnt_some hb3))
    walk_at "r1"
    walk_at "rd"
    have kk : ∀ {f : Fault}, (((firstBad (p.texts p.triples)).map Fault.noName).or ((outFault p).or (togFault p))) = some f → patFault p = some f := fun h => or_snd (cnt_none hb4) (or_snd (cnt_none hb3) h)
    have kn : (((firstBad (p.texts p.triples)).map Fault.noName).or ((outFault p).or (togFault p))) = none → patFault p = none := fun h => by
      unfold patFault
      rw [cnt_none hb4, cnt_none hb3, h]
      rfl
    refine ⟨b, p, rfl, ⟨dx', fs', i5, p5⟩, hs, fun e1 H6 s6 => ?_, fun x hx => (k2 (.noName x) (kk (or_fst (map_eq_some_of hx)))).rz b5⟩
    have m1 : (firstBad (p.texts p.triples)).map Fault.noName = none := by rw [e1]; rfl
    walk_at "rd"
    have b6 := Sb.trans b5 (Sb.of s6)
    have out1 : ∀ {f : Fault}, outFault p = some f → patFault p = some f := fun h => kk (or_snd m1 (or_fst h))
    refine ⟨b, p, rfl, ⟨dx', fs', s6 _ _ i5, p5.mono (.of s6)⟩, hs, fun e2 e3 H7 s7 => ?_, fun x hx => (k2 (.twice x) (out1 (or_fst (map_eq_some_of hx)))).rz b6, fun e2 x hx => (k2 (.noVar x) (out1 (or_snd (by rw [e2]; rfl) (map_eq_some_of hx)))).rz b6⟩
    walk_at "rd"
    have m2 : outFault p = none := by unfold outFault; rw [e2, e3]; rfl
    have s67 := Same.trans s6 s7
    have b7 := Sb.trans b5 (Sb.of s67)
    have tog1 : ∀ {f : Fault}, togFault p = some f → patFault p = some f := fun h => kk (or_snd m1 (or_snd m2 h))
    refine ⟨b, p, rfl, ⟨dx', fs', s67 _ _ i5, p5.mono (.of s67)⟩, hs, fun e4 e5 H8 s8 => ?_, fun x hx => (k2 (.loose x) (tog1 (or_fst (map_eq_some_of hx)))).rz b7, fun e4 i hx => (k2 (.apart i) (tog1 (or_snd (by rw [e4]; rfl) (map_eq_some_of hx)))).rz b7⟩
    walk_at "rd"
    have s68 := Same.trans s67 s8
    refine k1 (kn ?_) H8 (Sb.trans b5 (Sb.of s68)) ⟨dx', fs', s68 _ _ i5, p5.mono (.of s68)⟩
    rw [m1, m2]
    unfold togFault
    rw [e4, e5]
    rfl
end

section
variable {P : Program} {w : World} {K : PySem.W.Frag} {mg : Str → Option Value} {base : Heap}

def sp_Bar_init (K : PySem.W.Frag) : Sp := sp_Pattern_init K
theorem ok_Bar_init (T : Txt K mg) : OkD P w K mg base 7 (He.ma K (He.ga K "Bar") "__init__") ["self", "name", "variables", "conditions"] (sp_Bar_init K) := by
  have G_Pattern_init := ok_Pattern_init (P := P) (w := w) (base := base) T
  refine OkD.of T.d_Bar_init sc_Bar_init (fun _ _ _ _ _ _ us hl => match us, hl with | [_, _, _, _], _ => rfl) (fun vs H Q E h => ?_) (fun cdv A outer s H vs Q E hr h => ?_)
  · have h0 := h
    obtain ⟨b, va, ca, dx, vv, cv, p, fs0, rfl, hb, f0, qv, dv, qc, dc, nv, nc, hs, k1, k2⟩ := h
    rfl
  · have h0 := h
    obtain ⟨b, va, ca, dx, vv, cv, p, fs0, rfl, hb, f0, qv, dv, qc, dc, nv, nc, hs, k1, k2⟩ := h
    refine ⟨_, (pss_one (ps_expr (pe_um (pe_gref T.g_Pattern) T.cr_Pattern T.cf_Pattern_init G_Pattern_init (hr.mono (by decide)) (passes_call (takes_of rfl rfl rfl rfl) (fun _ _ _ _ h => h)) (pa_cons (pv 0) (pa_cons (pv 1) (pa_cons (pv 2) (pa_cons (pv 3) pa_nil))))))), ?_⟩
    refine rd_start (σ' := [some _, some _, some _, some _]) rfl ?_
    walk_at "rd"
    refine ⟨b, va, ca, dx, vv, cv, p, fs0, rfl, hb, f0, qv, dv, qc, dc, nv, nc, hs, fun e H' s h => ?_, k2⟩
    walk_at "rd"
    exact k1 e H' s h

/-- of a new Rule -/
def sp_Rule_init (K : PySem.W.Frag) : Sp := fun vs H Q E => ∃ (b va ca ga dx : Addr) (vv cv : List V) (p : Pat) (g : Trip) (y : Str), vs = [.ref b, .str p.name, .ref va, .ref ca, .ref ga, .str y] ∧ H b = some (.ins (cRule K) dx []) ∧ p.ru = some (g, y) ∧
  SqT K H ga [.str g.1, .str g.2.1, .str g.2.2] ∧ SqA K H va vv ∧ DtAll H vv (p.vars.map encV) ∧ SqA K H ca cv ∧ DtAll H cv (p.conds.map encC) ∧ va ≠ b ∧ ca ≠ b ∧ p.short ∧
  (patFault p = none → ∀ H', Sb b H H' → BarAt K H' b p → Q .non H') ∧ (∀ f, patFault p = some f → RzX b H E (f.C K) f.fs)
theorem ok_Rule_init (T : Txt K mg) : OkD P w K mg base 7 (He.ma K (He.ga K "Rule") "__init__") ["self", "name", "variables", "conditions", "gives", "by"] (sp_Rule_init K) := by
  have G_Pattern_init := ok_Pattern_init (P := P) (w := w) (base := base) T
  refine OkD.of T.d_Rule_init sc_Rule_init (fun _ _ _ _ _ _ us hl => match us, hl with | [_, _, _, _, _, _], _ => rfl) (fun vs H Q E h => ?_) (fun cdv A outer s H vs Q E hr h => ?_)
  · obtain ⟨b, va, ca, ga, dx, vv, cv, p, g, y, rfl, hb, hr0, qg, qv, dv, qc, dc, nv, nc, hs, k1, k2⟩ := h
    rfl
  · obtain ⟨b, va, ca, ga, dx, vv, cv, p, g, y, rfl, hb, hr0, qg, qv, dv, qc, dc, nv, nc, hs, k1, k2⟩ := h
    refine ⟨_, (pss_cons (ps_asg (pv 4) (kGt (K := K) (n := 3) rfl rfl (pgs_cons (pg_name (i := 6) sc_Rule_init.nd rfl (by first | exact Or.inl rfl | exact Or.inr rfl)) (pgs_cons (pg_name (i := 7) sc_Rule_init.nd rfl (by first | exact Or.inl rfl | exact Or.inr rfl)) (pgs_cons (pg_name (i := 8) sc_Rule_init.nd rfl (by first | exact Or.inl rfl | exact Or.inr rfl)) pgs_nil))))) (pss_cons (ps_fld (pv 0) (pe_tup (pa_cons (pv 6) (pa_cons (pv 7) (pa_cons (pv 8) pa_nil)))) rfl) (pss_cons (ps_fld (pv 0) (pv 5) rfl) (pss_one (ps_expr (pe_um (pe_gref T.g_Pattern) T.cr_Pattern T.cf_Pattern_init G_Pattern_init (hr.mono (by decide)) (passes_call (takes_of rfl rfl rfl rfl) (fun _ _ _ _ h => h)) (pa_cons (pv 0) (pa_cons (pv 1) (pa_cons (pv 2) (pa_cons (pv 3) pa_nil)))))))))), ?_⟩
    refine rd_start (σ' := [some _, some _, some _, some _, some _, some _, none, none, none]) rfl ?_
    walk_at "rd"
    refine rd_gtup qg rfl ?_
    walk_at "rd"
    refine nw_in fun q1 H1 n1 s1 h1 => ?_
    walk_at "rd"
    refine sfldr (s1 _ _ hb) T.c_Rule T.n_Rule_gives (by decide) ?_
    walk_at "rd"
    refine sfldr upd_same T.c_Rule T.n_Rule_by (Nat.lt_of_le_of_lt (len_putF (n := 0) (Nat.le_refl 0)) (by decide)) ?_
    walk_at "rd"
    have t1 : q1 ≠ b := fun z => by rw [z, hb] at n1; cases n1
    have b1 : Sb b H (upd (upd H1 b (.ins (cRule K) dx (putF "gives" (.ref q1) []))) b (.ins (cRule K) dx (putF "by" (.str y) (putF "gives" (.ref q1) [])))) := Sb.up (Sb.up (Sb.of s1))
    have kt := Sb.keep hb (fun _ z => by cases z) b1
    refine ⟨b, va, ca, dx, vv, cv, p, putF "by" (.str y) (putF "gives" (.ref q1) []), rfl, by rw [patC_rule hr0]; exact upd_same, ⟨len_putF (len_putF (n := 0) (Nat.le_refl 0)), lk_miss (by decide) (lk_miss (by decide) rfl), lk_miss (by decide) (lk_miss (by decide) rfl), fun g' y' e => ?_⟩, qv.sb nv b1, dv.mono kt, qc.sb nc b1, dc.mono kt, nv, nc, hs, fun e H' s h => ?_, fun f e => (k2 f e).mono b1⟩
    · rw [hr0] at e
      cases e
      exact ⟨⟨q1, lk_miss (by decide) lk_hit, by rw [upd_ne t1, upd_ne t1]; exact h1⟩, lk_hit⟩
    · walk_at "rd"
      exact k1 e H' (Sb.trans b1 s) h
end

section
variable {P : Program} {w : World} {K : PySem.W.Frag} {mg : Str → Option Value} {base : Heap}
/-! ### makings as data -/
structure Mak where
  maker : Str
  made : Str
  down : List Str
  up : List Str
structure MakF (H : Hp) (fs : List (Str × V)) (m : Mak) : Prop where
  kr : fl fs "maker" = some (V.str m.maker)
  md : fl fs "made" = some (V.str m.made)
  dn : ∃ a, fl fs "down" = some (V.ref a) ∧ H a = some (.tup (m.down.map V.str))
  up : ∃ a, fl fs "up" = some (V.ref a) ∧ H a = some (.tup (m.up.map V.str))
abbrev cMaking (K : PySem.W.Frag) : Addr := He.ga K "Making"
def MakAt (K : PySem.W.Frag) (H : Hp) (b : Addr) (m : Mak) : Prop := ∃ dx fs, H b = some (.ins (cMaking K) dx fs) ∧ MakF H fs m
def Mak.short (m : Mak) : Prop := (∀ x ∈ m.maker :: m.made :: (m.down ++ m.up), x.length ≤ 1000) ∧ m.down.length ≤ 1000 ∧ m.up.length ≤ 1000
def nmF (xs : List Str) : Option Fault := (firstBad xs).map .noName
def twF (xs : List Str) : Option Fault := (firstTwice [] xs).map .twice
def makFault (m : Mak) : Option Fault := (nmF [m.maker, m.made]).or ((nmF m.down).or ((nmF m.up).or ((twF m.down).or (twF m.up))))

/-- of a new Making, from two lists -/
def sp_Making_init (K : PySem.W.Frag) : Sp := fun vs H Q E => ∃ (b da ua dx : Addr) (m : Mak), vs = [.ref b, .str m.maker, .str m.made, .ref da, .ref ua] ∧ H b = some (.ins (cMaking K) dx []) ∧
  H da = some (.lst (m.down.map V.str)) ∧ H ua = some (.lst (m.up.map V.str)) ∧ m.short ∧
  (makFault m = none → ∀ H', Sb b H H' → MakAt K H' b m → Q .non H') ∧ (∀ f, makFault m = some f → RzX b H E (f.C K) f.fs)
theorem ok_Making_init (T : Txt K mg) : OkD P w K mg base 4 (He.ma K (He.ga K "Making") "__init__") ["self", "maker", "made", "down", "up"] (sp_Making_init K) := by
  have G_asked_once := ok_asked_once (P := P) (w := w) (base := base) T
  have G_asked_names := ok_asked_names (P := P) (w := w) (base := base) T
  refine OkD.of T.d_Making_init sc_Making_init (fun _ _ _ _ _ _ us hl => match us, hl with | [_, _, _, _, _], _ => rfl) (fun vs H Q E h => ?_) (fun cdv A outer s H vs Q E hr h => ?_)
  · obtain ⟨b, da, ua, dx, m, rfl, hb, qd, qu, hs, k1, k2⟩ := h
    rfl
  · obtain ⟨b, da, ua, dx, m, rfl, hb, qd, qu, hs, k1, k2⟩ := h
    refine ⟨_, (pss_cons (ps_fld (pv 0) (pv 1) rfl) (pss_cons (ps_fld (pv 0) (pv 2) rfl) (pss_cons (ps_fld (pv 0) (pe_callTy (kTuple (K := K) rfl) (by rfl) T.z_tuple (by decide +kernel) (pa_cons (pv 3) pa_nil)) rfl) (pss_cons (ps_fld (pv 0) (pe_callTy (kTuple (K := K) rfl) (by rfl) T.z_tuple (by decide +kernel) (pa_cons (pv 4) pa_nil)) rfl) (pss_cons (ps_expr (pe_fn G_asked_names (hr.mono (by decide)) rfl T.g_asked_names (passes_call (takes_of rfl rfl rfl rfl) (fun _ _ _ _ h => h)) (pa_cons (pe_lst (pa_cons (pv 1) (pa_cons (pv 2) pa_nil))) pa_nil))) (pss_cons (ps_expr (pe_fn G_asked_names (hr.mono (by decide)) rfl T.g_asked_names (passes_call (takes_of rfl rfl rfl rfl) (fun _ _ _ _ h => h)) (pa_cons (kFld (K := K) rfl (pv 0)) pa_nil))) (pss_cons (ps_expr (pe_fn G_asked_names (hr.mono (by decide)) rfl T.g_asked_names (passes_call (takes_of rfl rfl rfl rfl) (fun _ _ _ _ h => h)) (pa_cons (kFld (K := K) rfl (pv 0)) pa_nil))) (pss_cons (ps_expr (pe_fn G_asked_once (hr.mono (by decide)) rfl T.g_asked_once (passes_call (takes_of rfl rfl rfl rfl) (fun _ _ _ _ h => h)) (pa_cons (kFld (K := K) rfl (pv 0)) pa_nil))) (pss_one (ps_expr (pe_fn G_asked_once (hr.mono (by decide)) rfl T.g_asked_once (passes_call (takes_of rfl rfl rfl rfl) (fun _ _ _ _ h => h)) (pa_cons (kFld (K := K) rfl (pv 0)) pa_nil)))))))))))), ?_⟩
    have nd : da ≠ b := fun z => by rw [z, hb] at qd; cases qd
    have nu : ua ≠ b := fun z => by rw [z, hb] at qu; cases qu
    refine rd_start (σ' := [some _, some _, some _, some _, some _]) rfl ?_
    walk_at "rd"
    refine sfldr hb T.c_Making T.n_Making_maker (by decide) ?_
    walk_at "rd"
    refine sfldr upd_same T.c_Making T.n_Making_made (Nat.lt_of_le_of_lt (len_putF (n := 0) (Nat.le_refl 0)) (by decide)) ?_
    walk_at "rd"
    have b2 : Sb b H (upd (upd H b (.ins (cMaking K) dx (putF "maker" (.str m.maker) []))) b (.ins (cMaking K) dx (putF "made" (.str m.made) (putF "maker" (.str m.maker) [])))) := Sb.up (Sb.up (Sb.refl H))
    have i2 : (upd (upd H b (.ins (cMaking K) dx (putF "maker" (.str m.maker) []))) b (.ins (cMaking K) dx (putF "made" (.str m.made) (putF "maker" (.str m.maker) [])))) b = some (.ins (cMaking K) dx (putF "made" (.str m.made) (putF "maker" (.str m.maker) []))) := upd_same
    generalize (upd (upd H b (.ins (cMaking K) dx (putF "maker" (.str m.maker) []))) b (.ins (cMaking K) dx (putF "made" (.str m.made) (putF "maker" (.str m.maker) [])))) = H2 at b2 i2 ⊢
    refine rd_tupL (.inl (.inl (b2 _ _ nd qd))) ?_
    refine nw_in fun T1 H3 n3 s3 h3 => ?_
    walk_at "rd"
    have i3 := s3 _ _ i2
    have t1 : T1 ≠ b := fun z => by rw [z, i3] at h3; cases h3
    refine sfldr i3 T.c_Making T.n_Making_down (Nat.lt_of_le_of_lt (len_putF (n := 1) (len_putF (n := 0) (Nat.le_refl 0))) (by decide)) ?_
    have b4 : Sb b H (upd H3 b (.ins (cMaking K) dx (putF "down" (.ref T1) (putF "made" (.str m.made) (putF "maker" (.str m.maker) []))))) := Sb.up (Sb.trans b2 (Sb.of s3))
    have i4 : (upd H3 b (.ins (cMaking K) dx (putF "down" (.ref T1) (putF "made" (.str m.made) (putF "maker" (.str m.maker) []))))) b = some (.ins (cMaking K) dx (putF "down" (.ref T1) (putF "made" (.str m.made) (putF "maker" (.str m.maker) [])))) := upd_same
    have g4 : (upd H3 b (.ins (cMaking K) dx (putF "down" (.ref T1) (putF "made" (.str m.made) (putF "maker" (.str m.maker) []))))) T1 = some (.tup (m.down.map V.str)) := by rw [upd_ne t1]; exact h3
    generalize (upd H3 b (.ins (cMaking K) dx (putF "down" (.ref T1) (putF "made" (.str m.made) (putF "maker" (.str m.maker) []))))) = H4 at b4 i4 g4 ⊢
    walk_at "rd"
    refine rd_tupL (.inl (.inl (b4 _ _ nu qu))) ?_
    refine nw_in fun T2 H5 n5 s5 h5 => ?_
    walk_at "rd"
    have i5 := s5 _ _ i4
    have t2 : T2 ≠ b := fun z => by rw [z, i5] at h5; cases h5
    have e3 : (putF "down" (.ref T1) (putF "made" (.str m.made) (putF "maker" (.str m.maker) []))).length ≤ 3 := len_putF (n := 2) (len_putF (n := 1) (len_putF (n := 0) (Nat.le_refl 0)))
    refine sfldr i5 T.c_Making T.n_Making_up (by omega) ?_
    have b6 : Sb b H (upd H5 b (.ins (cMaking K) dx (putF "up" (.ref T2) (putF "down" (.ref T1) (putF "made" (.str m.made) (putF "maker" (.str m.maker) [])))))) := Sb.up (Sb.trans b4 (Sb.of s5))
    have i6 : (upd H5 b (.ins (cMaking K) dx (putF "up" (.ref T2) (putF "down" (.ref T1) (putF "made" (.str m.made) (putF "maker" (.str m.maker) [])))))) b = some (.ins (cMaking K) dx (putF "up" (.ref T2) (putF "down" (.ref T1) (putF "made" (.str m.made) (putF "maker" (.str m.maker) []))))) := upd_same
    have g6 : (upd H5 b (.ins (cMaking K) dx (putF "up" (.ref T2) (putF "down" (.ref T1) (putF "made" (.str m.made) (putF "maker" (.str m.maker) [])))))) T1 = some (.tup (m.down.map V.str)) := by rw [upd_ne t1]; exact s5 _ _ g4
    have g6' : (upd H5 b (.ins (cMaking K) dx (putF "up" (.ref T2) (putF "down" (.ref T1) (putF "made" (.str m.made) (putF "maker" (.str m.maker) [])))))) T2 = some (.tup (m.up.map V.str)) := by rw [upd_ne t2]; exact h5
    generalize (upd H5 b (.ins (cMaking K) dx (putF "up" (.ref T2) (putF "down" (.ref T1) (putF "made" (.str m.made) (putF "maker" (.str m.maker) [])))))) = H6 at b6 i6 g6 g6' ⊢
    have f1 : MakF H6 (putF "up" (.ref T2) (putF "down" (.ref T1) (putF "made" (.str m.made) (putF "maker" (.str m.maker) [])))) m :=
      ⟨lk_miss (by decide) (lk_miss (by decide) (lk_miss (by decide) lk_hit)), lk_miss (by decide) (lk_miss (by decide) lk_hit), ⟨T1, lk_miss (by decide) lk_hit, g6⟩, ⟨T2, lk_hit, g6'⟩⟩
    generalize putF "up" (.ref T2) (putF "down" (.ref T1) (putF "made" (.str m.made) (putF "maker" (.str m.maker) []))) = fs at i6 f1 ⊢
    have lm : ∀ x ∈ [m.maker, m.made], x.length ≤ 1000 := fun x hx => hs.1 x (by simp at hx ⊢; rcases hx with h | h <;> simp [h])
    have ld : ∀ x ∈ m.down, x.length ≤ 1000 := fun x hx => hs.1 x (by simp [hx])
    have lu : ∀ x ∈ m.up, x.length ≤ 1000 := fun x hx => hs.1 x (by simp [hx])
    walk_at "rd"
    refine nw_in fun q7 H7 n7 s7 h7 => ?_
    walk_at "rd"
    refine ⟨q7, [m.maker, m.made], rfl, .inl (.inl (.inl h7)), lm, fun e1 H8 s8 => ?_, fun x hx => ((k2 (.noName x) (or_fst (map_eq_some_of hx))).rz b6).mono s7⟩
    have z1 : nmF [m.maker, m.made] = none := by unfold nmF; rw [e1]; rfl
    walk_at "rd"
    have s68 := Same.trans s7 s8
    obtain ⟨a1, d1, d1'⟩ := f1.dn
    obtain ⟨a2, u1, u1'⟩ := f1.up
    refine rd_fldr (s68 _ _ i6) T.c_Making T.n_Making_down d1 ?_
    walk_at "rd"
    refine ⟨a1, m.down, rfl, .inr (.inl (.inl (s68 _ _ d1'))), ld, fun e2 H9 s9 => ?_, fun x hx => ((k2 (.noName x) (or_snd z1 (or_fst (map_eq_some_of hx)))).rz b6).mono s68⟩
    have z2 : nmF m.down = none := by unfold nmF; rw [e2]; rfl
    walk_at "rd"
    have s69 := Same.trans s68 s9
    refine rd_fldr (s69 _ _ i6) T.c_Making T.n_Making_up u1 ?_
    walk_at "rd"
    refine ⟨a2, m.up, rfl, .inr (.inl (.inl (s69 _ _ u1'))), lu, fun e3 H10 s10 => ?_, fun x hx => ((k2 (.noName x) (or_snd z1 (or_snd z2 (or_fst (map_eq_some_of hx))))).rz b6).mono s69⟩
    have z3 : nmF m.up = none := by unfold nmF; rw [e3]; rfl
    walk_at "rd"
    have s610 := Same.trans s69 s10
    refine rd_fldr (s610 _ _ i6) T.c_Making T.n_Making_down d1 ?_
    walk_at "rd"
    refine ⟨a1, m.down, rfl, .inr (.inl (.inl (s610 _ _ d1'))), hs.2.1, fun e4 H11 s11 => ?_, fun x hx => ((k2 (.twice x) (or_snd z1 (or_snd z2 (or_snd z3 (or_fst (map_eq_some_of hx)))))).rz b6).mono s610⟩
    have z4 : twF m.down = none := by unfold twF; rw [e4]; rfl
    walk_at "rd"
    have s611 := Same.trans s610 s11
    refine rd_fldr (s611 _ _ i6) T.c_Making T.n_Making_up u1 ?_
    walk_at "rd"
    refine ⟨a2, m.up, rfl, .inr (.inl (.inl (s611 _ _ u1'))), hs.2.2, fun e5 H12 s12 => ?_, fun x hx => ((k2 (.twice x) (or_snd z1 (or_snd z2 (or_snd z3 (or_snd z4 (map_eq_some_of hx)))))).rz b6).mono s611⟩
    have z5 : twF m.up = none := by unfold twF; rw [e5]; rfl
    walk_at "rd"
    have s612 := Same.trans s611 s12
    refine k1 ?_ H12 (Sb.trans b6 (Sb.of s612)) ⟨dx, fs, s612 _ _ i6, f1.kr, f1.md, ⟨a1, d1, s612 _ _ d1'⟩, ⟨a2, u1, s612 _ _ u1'⟩⟩
    unfold makFault
    rw [z1, z2, z3, z4, z5]
    rfl
end

section
variable {P : Program} {w : World} {K : PySem.W.Frag} {mg : Str → Option Value} {base : Heap}
/-! ### rows of text -/
def varPart (v : Str × Option Str) : Str := match v.2 with
  | none => v.1
  | some s => v.1 ++ ":" ++ s
def condPart (c : Trip) : List Str := ["|", c.1, c.2.1, c.2.2]
def partsOf (kind : Str) (p : Pat) : List Str := [kind, p.name] ++ (p.vars.map varPart ++ p.conds.flatMap condPart)
def Pat.tshort (p : Pat) : Prop := p.name.length ≤ 100 ∧ (∀ v ∈ p.vars, (varPart v).length ≤ 100) ∧ (∀ c ∈ p.conds, ∀ z ∈ condPart c, z.length ≤ 100) ∧ p.vars.length ≤ 100 ∧ p.conds.length ≤ 100
theorem flat_len {cs : List Trip} : (cs.flatMap condPart).length = 4 * cs.length := by
  induction cs with
  | nil => rfl
  | cons x r ih =>
    rw [List.flatMap_cons, List.length_append, ih, List.length_cons]
    show 4 + _ = _
    omega
theorem parts_len {k : Str} {p : Pat} (h : p.tshort) : (partsOf k p).length ≤ 502 := by
  unfold partsOf
  rw [List.length_append, List.length_append, flat_len, List.length_map]
  have := h.2.2.2.1
  have := h.2.2.2.2
  show 2 + _ ≤ _
  omega
theorem parts_short {k : Str} {p : Pat} (hk : k.length ≤ 100) (h : p.tshort) : ∀ z ∈ partsOf k p, z.length ≤ 100 := by
  intro z hz
  unfold partsOf at hz
  rw [List.mem_append, List.mem_append] at hz
  rcases hz with hz | hz | hz
  · simp at hz
    rcases hz with rfl | rfl
    · exact hk
    · exact h.1
  · obtain ⟨v, hv, rfl⟩ := List.mem_map.mp hz
    exact h.2.1 v hv
  · obtain ⟨c, hc, hz⟩ := List.mem_flatMap.mp hz
    exact h.2.2.1 c hc z hz
theorem join_room {zs : List Str} {a : Str} (h : ∀ z ∈ zs, z.length ≤ 100) (hl : zs.length ≤ 10000) (ha : a.length ≤ 1) : (zs.map (·.length)).sum + zs.length * a.length ≤ 16777216 := by
  have h1 := sum_le h
  have h2 : zs.length * a.length ≤ zs.length * 1 := Nat.mul_le_mul_left _ ha
  omega

def sp_variable_part (K : PySem.W.Frag) : Sp := fun vs H Q E => ∃ (v : Str × Option Str), vs = [.str v.1, oV v.2] ∧ (varPart v).length ≤ 1000 ∧ Q (.str (varPart v)) H
theorem ok_variable_part (T : Txt K mg) : OkD P w K mg base 1 (He.ga K "variable_part") ["name", "sort"] (sp_variable_part K) := by
  refine OkD.of T.d_variable_part sc_variable_part (fun _ _ _ _ _ _ us hl => match us, hl with | [_, _], _ => rfl) (fun vs H Q E h => ?_) (fun cdv A outer s H vs Q E hr h => ?_)
  · obtain ⟨v, rfl, hl, k⟩ := h
    rfl
  · obtain ⟨v, rfl, hl, k⟩ := h
    refine ⟨_, (pss_cons (ps_if (pt_cmpR op_isN (pv 1) pe_non (nomark _)) (pss_one (ps_ret (pv 0))) pss_nil) (pss_one (ps_ret (pe_op (kAdd (K := K) rfl) (pe_op (kAdd (K := K) rfl) (pv 0) pe_str) (pv 1))))), ?_⟩
    refine rd_start (σ' := [some _, some _]) rfl ?_
    obtain ⟨n, s⟩ := v
    walk_at "rd"
    cases s with
    | none =>
      rw [show decide (oV ((n, none) : Str × Option Str).snd = V.non) = true from rfl]
      walk_at "rd"
      exact k
    | some s =>
      rw [show decide (oV ((n, some s) : Str × Option Str).snd = V.non) = false from rfl]
      walk_at "rd"
      have hl' : (n ++ ":" ++ s).length ≤ 1000 := hl
      have l1 := Str.length_append n ":"
      have e1 : ((n, some s) : Str × Option Str).fst.length = n.length := rfl
      have e2 : (((n, some s) : Str × Option Str).fst ++ (":" : Str)).length = n.length + (":" : Str).length := l1
      rw [Str.length_append] at hl'
      refine rd_addS (le_size (by omega)) ?_
      walk_at "rd"
      refine rd_addS (le_size (by omega)) ?_
      exact k

def sp_pattern_parts (K : PySem.W.Frag) : Sp := fun vs H Q E => ∃ (kind : Str) (b : Addr) (p : Pat), vs = [.str kind, .ref b] ∧ BarAt K H b p ∧ p.tshort ∧ ∀ q H', Same H H' → H' q = some (.lst ((partsOf kind p).map V.str)) → Q (.ref q) H'
theorem ok_pattern_parts (T : Txt K mg) : OkD P w K mg base 3 (He.ga K "pattern_parts") ["kind", "pattern"] (sp_pattern_parts K) := by
  have G_variable_part := ok_variable_part (P := P) (w := w) (base := base) T
  refine OkD.of T.d_pattern_parts sc_pattern_parts (fun _ _ _ _ _ _ us hl => match us, hl with | [_, _], _ => rfl) (fun vs H Q E h => ?_) (fun cdv A outer s H vs Q E hr h => ?_)
  · obtain ⟨kind, b, p, rfl, hb, hs, k⟩ := h
    rfl
  · obtain ⟨kind, b, p, rfl, hb, hs, k⟩ := h
    refine ⟨_, (pss_cons (ps_set (i := 2) sc_pattern_parts.nd rfl (by first | exact Or.inl rfl | exact Or.inr rfl) (pe_lst (pa_cons (pv 0) (pa_cons (kFld (K := K) rfl (pv 1)) pa_nil)))) (pss_cons (ps_expr (pe_bm PySem.F.plainAttrs_list PySem.F.slot_list_extend PySem.F.type_list_extend mt_extend (pv 2) (pa_cons (pe_lc (own := [("name", 6), ("sort", 7)]) rfl sc_pattern_parts.nd (kSeq (K := K) rfl (kFld (K := K) rfl (pv 1))) (blkOk_by (N := N_pattern_parts) (sc := defScope s_pattern_parts) (by decide +kernel)) (fun _ _ _ _ _ => (kGt (K := K) (n := 2) rfl rfl (pgs_cons (pg_name (i := 6) sc_pattern_parts.nd rfl (by first | exact Or.inl rfl | exact Or.inr rfl)) (pgs_cons (pg_name (i := 7) sc_pattern_parts.nd rfl (by first | exact Or.inl rfl | exact Or.inr rfl)) pgs_nil)))) (fun _ _ _ _ _ => pts_nil) (fun _ _ _ _ _ => (pe_fn G_variable_part (hr.mono (by decide)) rfl T.g_variable_part passL (pa_cons (pv 6) (pa_cons (pv 7) pa_nil))))) pa_nil))) (pss_cons (ps_for (passes_of rfl) rfl (kSeq (K := K) rfl (kFld (K := K) rfl (pv 1))) (kGt (K := K) (n := 3) rfl rfl (pgs_cons (pg_name (i := 3) sc_pattern_parts.nd rfl (by first | exact Or.inl rfl | exact Or.inr rfl)) (pgs_cons (pg_name (i := 4) sc_pattern_parts.nd rfl (by first | exact Or.inl rfl | exact Or.inr rfl)) (pgs_cons (pg_name (i := 5) sc_pattern_parts.nd rfl (by first | exact Or.inl rfl | exact Or.inr rfl)) pgs_nil)))) (pss_one (ps_expr (pe_bm PySem.F.plainAttrs_list PySem.F.slot_list_extend PySem.F.type_list_extend mt_extend (pv 2) (pa_cons (pe_lst (pa_cons pe_str (pa_cons (pv 3) (pa_cons (pv 4) (pa_cons (pv 5) pa_nil))))) pa_nil))))) (pss_one (ps_ret (pv 2)))))), ?_⟩
    obtain ⟨dx, fs, hi, hp⟩ := hb
    obtain ⟨va, vv, v1, v2, v3⟩ := hp.va
    obtain ⟨ca, cv, c1, c2, c3⟩ := hp.ca
    refine rd_start (σ' := [some _, some _, none, none, none, none, none, none]) rfl ?_
    walk_at "rd"
    refine rd_fldr hi (clsP T p) (nmP T p) hp.nm ?_
    walk_at "rd"
    refine nw_in fun q H1 nq s1 hq => ?_
    walk_at "rd"
    refine rd_ap hq ?_
    walk_at "rd"
    refine rd_fldr (s1 _ _ hi) (clsP T p) (vaP T p) v1 ?_
    refine rd_itT (.inl (.inl (s1 _ _ v2))) ?_
    have hv4 := hs.2.2.2.1
    have hc4 := hs.2.2.2.2
    refine lc_map (f := fun c => PyData.str (varPart c)) walk_tup (v3.mono (.of s1)) (by omega) (fun H' s => .inl (.inl (s _ _ (s1 _ _ v2)))) (fun c x H5 P hc hx s5 k5 => ?_) (fun D H2 ys nD s2 h2 d2 => ?_)
    · obtain ⟨t, rfl, ht⟩ := encV_inv hx
      refine rd_elt (σ' := [some (.str kind), some (.ref b), some (.ref q), none, none, none, none, none]) rfl ?_
      refine rd_gtup (.inl (.inl ht)) rfl ?_
      walk_at "rd"
      refine ⟨c, rfl, by have := hs.2.1 c hc; omega, ?_⟩
      exact k5 _ H5 (Same.refl _) (.str _)
    walk_at "rd"
    have ey : ys = (p.vars.map varPart).map V.str := DtAll.strs_inv (by rw [List.map_map]; exact d2)
    rw [ey] at h2
    refine extd (s2 _ _ hq) h2 (by rw [List.length_map, List.length_map]; show 2 + _ ≤ _; omega) ?_
    walk_at "rd"
    have s3 : Same H (upd H2 q (.lst ([.str kind, .str p.name] ++ (p.vars.map varPart).map V.str))) := Same.up (Same.trans s1 s2) nq
    refine rd_fldr (s3 _ _ hi) (clsP T p) (coP T p) c1 ?_
    refine for_seqB (K := K) (H0 := H) (.inr (.inl (.inl c2))) (fun i σ H' => Same H H' ∧ (∃ u1 u2 u3 u4 u5, σ = [some (.str kind), some (.ref b), some (.ref q), u1, u2, u3, u4, u5]) ∧ H' q = some (.lst (([kind, p.name] ++ (p.vars.map varPart ++ (p.conds.take i).flatMap condPart)).map V.str))) s3 ⟨s3, ⟨_, _, _, _, _, rfl⟩, by rw [upd_same, List.take_zero]; simp⟩ (fun i σ H' _ h => h.1) ?_ ?_
    · rintro i y σ H4 hi4 ⟨s4, ⟨u1, u2, u3, u4, u5, rfl⟩, hq4⟩
      obtain ⟨c, hc, hd⟩ := DtAll.get_map (c3.mono (.of s4)) hi4
      obtain ⟨t, rfl, ht⟩ := encC_inv hd
      walk_at "rd"
      refine rd_gtup (.inl (.inl ht)) rfl ?_
      walk_at "rd"
      refine rd_ap hq4 ?_
      walk_at "rd"
      refine nw_in fun q5 H5 n5 s5 h5 => ?_
      walk_at "rd"
      have hl5 : ((([kind, p.name] ++ (p.vars.map varPart ++ (p.conds.take i).flatMap condPart)).map V.str)).length ≤ 1000 := by
        rw [List.length_map, List.length_append, List.length_append, flat_len, List.length_map, List.length_take]
        show 2 + _ ≤ _
        omega
      refine extd (s5 _ _ hq4) h5 (by show _ + 4 ≤ _; omega) ?_
      walk_at "rd"
      refine ⟨Same.up (Same.trans s4 s5) nq, ⟨_, _, _, _, _, rfl⟩, ?_⟩
      rw [upd_same, take_succ_of hc, List.flatMap_append]
      simp [condPart]
    rintro σ H4 ⟨s4, ⟨u1, u2, u3, u4, u5, rfl⟩, hq4⟩
    rw [c3.length, List.length_map, List.take_length] at hq4
    walk_at "rd"
    exact k q H4 s4 hq4

def barRow (p : Pat) : Str := Str.join " " (partsOf "bar" p)
def sp_Bar_str (K : PySem.W.Frag) : Sp := fun vs H Q E => ∃ (b : Addr) (p : Pat), vs = [.ref b] ∧ BarAt K H b p ∧ p.tshort ∧ ∀ H', Same H H' → Q (.str (barRow p)) H'
theorem ok_Bar_str (T : Txt K mg) : OkD P w K mg base 4 (He.ma K (He.ga K "Bar") "__str__") ["self"] (sp_Bar_str K) := by
  have G_pattern_parts := ok_pattern_parts (P := P) (w := w) (base := base) T
  refine OkD.of T.d_Bar_str sc_Bar_str (fun _ _ _ _ _ _ us hl => match us, hl with | [_], _ => rfl) (fun vs H Q E h => ?_) (fun cdv A outer s H vs Q E hr h => ?_)
  · obtain ⟨b, p, rfl, hb, hs, k⟩ := h
    rfl
  · obtain ⟨b, p, rfl, hb, hs, k⟩ := h
    refine ⟨_, (pss_one (ps_ret (pe_join pe_str (pe_fn G_pattern_parts (hr.mono (by decide)) rfl T.g_pattern_parts (passes_call (takes_of rfl rfl rfl rfl) (fun _ _ _ _ h => h)) (pa_cons pe_str (pa_cons (pv 0) pa_nil)))))), ?_⟩
    refine rd_start (σ' := [some _]) rfl ?_
    walk_at "rd"
    refine ⟨"bar", b, p, rfl, hb, hs, fun q H1 s1 h1 => ?_⟩
    walk_at "rd"
    refine joinr (.inl (.inl (.inl h1))) (join_room (parts_short (by decide) hs) (by have := parts_len (k := "bar") hs; omega) (by decide)) ?_
    exact k H1 s1

def ruleRow (p : Pat) (g : Trip) (y : Str) : Str := Str.join " " (partsOf "rule" p ++ ([">"] : List Str) ++ ([g.1, g.2.1, g.2.2] : List Str) ++ (["by", y] : List Str))
def sp_Rule_str (K : PySem.W.Frag) : Sp := fun vs H Q E => ∃ (b : Addr) (p : Pat) (g : Trip) (y : Str), vs = [.ref b] ∧ BarAt K H b p ∧ p.ru = some (g, y) ∧ p.tshort ∧ (∀ z ∈ [g.1, g.2.1, g.2.2, y], z.length ≤ 100) ∧ ∀ H', Same H H' → Q (.str (ruleRow p g y)) H'
theorem ok_Rule_str (T : Txt K mg) : OkD P w K mg base 4 (He.ma K (He.ga K "Rule") "__str__") ["self"] (sp_Rule_str K) := by
  have G_pattern_parts := ok_pattern_parts (P := P) (w := w) (base := base) T
  refine OkD.of T.d_Rule_str sc_Rule_str (fun _ _ _ _ _ _ us hl => match us, hl with | [_], _ => rfl) (fun vs H Q E h => ?_) (fun cdv A outer s H vs Q E hr h => ?_)
  · obtain ⟨b, p, g, y, rfl, hb, hr0, hs, hg, k⟩ := h
    rfl
  · obtain ⟨b, p, g, y, rfl, hb, hr0, hs, hg, k⟩ := h
    refine ⟨_, (pss_one (ps_ret (pe_join pe_str (pe_op (kAdd (K := K) rfl) (pe_op (kAdd (K := K) rfl) (pe_op (kAdd (K := K) rfl) (pe_fn G_pattern_parts (hr.mono (by decide)) rfl T.g_pattern_parts (passes_call (takes_of rfl rfl rfl rfl) (fun _ _ _ _ h => h)) (pa_cons pe_str (pa_cons (pv 0) pa_nil))) (pe_lst (pa_cons pe_str pa_nil))) (pe_callTy (kList (K := K) rfl) (by rfl) T.z_list (by decide +kernel) (pa_cons (kFld (K := K) rfl (pv 0)) pa_nil))) (pe_lst (pa_cons pe_str (pa_cons (kFld (K := K) rfl (pv 0)) pa_nil))))))), ?_⟩
    refine rd_start (σ' := [some _]) rfl ?_
    walk_at "rd"
    refine ⟨"rule", b, p, rfl, hb, hs, fun q H1 s1 h1 => ?_⟩
    obtain ⟨dx, fs, hi, hp⟩ := hb
    rw [patC_rule hr0] at hi
    obtain ⟨⟨ga, g1, g2⟩, g3⟩ := hp.gv g y hr0
    have hl := parts_len (k := "rule") hs
    walk_at "rd"
    refine nw_in fun q2 H2 n2 s2 h2 => ?_
    walk_at "rd"
    refine rd_addL (.inl (.inl (s2 _ _ h1))) (.inl (.inl h2)) (le_size (by rw [List.length_map]; show _ + 1 ≤ _; omega)) ?_
    refine nw_in fun q3 H3 n3 s3 h3 => ?_
    have s03 := Same.trans s1 (Same.trans s2 s3)
    walk_at "rd"
    refine rd_fldr (s03 _ _ hi) T.c_Rule T.n_Rule_gives g1 ?_
    walk_at "rd"
    refine rd_listT (.inl (.inl (s03 _ _ g2))) ?_
    refine nw_in fun q4 H4 n4 s4 h4 => ?_
    refine rd_addL (.inl (.inl (s4 _ _ h3))) (.inl (.inl h4)) (le_size (by rw [List.length_append, List.length_map]; show _ + 1 + 3 ≤ _; omega)) ?_
    refine nw_in fun q5 H5 n5 s5 h5 => ?_
    have s05 := Same.trans s03 (Same.trans s4 s5)
    walk_at "rd"
    refine rd_fldr (s05 _ _ hi) T.c_Rule T.n_Rule_by g3 ?_
    walk_at "rd"
    refine nw_in fun q6 H6 n6 s6 h6 => ?_
    refine rd_addL (.inl (.inl (s6 _ _ h5))) (.inl (.inl h6)) (le_size (by rw [List.length_append, List.length_append, List.length_map]; show _ + 1 + 3 + 2 ≤ _; omega)) ?_
    refine nw_in fun q7 H7 n7 s7 h7 => ?_
    walk_at "rd"
    refine joinr (ys := partsOf "rule" p ++ ([">"] : List Str) ++ ([g.1, g.2.1, g.2.2] : List Str) ++ (["by", y] : List Str)) (.inl (.inl (.inl (by rw [h7]; simp)))) (join_room (fun z hz => ?_) (by rw [List.length_append, List.length_append, List.length_append]; show _ + 1 + 3 + 2 ≤ _; omega) (by decide)) ?_
    · rw [List.mem_append, List.mem_append, List.mem_append] at hz
      rcases hz with ((hz | hz) | hz) | hz
      · exact parts_short (by decide) hs z hz
      · rw [List.mem_singleton.mp hz]; decide
      · exact hg z (by simp at hz ⊢; rcases hz with h | h | h <;> simp [h])
      · simp at hz
        rcases hz with rfl | rfl
        · decide
        · exact hg _ (by simp)
    exact k H7 (Same.trans s05 (Same.trans s6 s7))

def makRow (m : Mak) : Str := Str.join " " ((["making", m.maker, m.made, ">"] : List Str) ++ m.down ++ (["<"] : List Str) ++ m.up)
def sp_Making_str (K : PySem.W.Frag) : Sp := fun vs H Q E => ∃ (b : Addr) (m : Mak), vs = [.ref b] ∧ MakAt K H b m ∧ (∀ z ∈ m.maker :: m.made :: (m.down ++ m.up), z.length ≤ 100) ∧ m.down.length ≤ 1000 ∧ m.up.length ≤ 1000 ∧ ∀ H', Same H H' → Q (.str (makRow m)) H'
theorem ok_Making_str (T : Txt K mg) : OkD P w K mg base 1 (He.ma K (He.ga K "Making") "__str__") ["self"] (sp_Making_str K) := by
  refine OkD.of T.d_Making_str sc_Making_str (fun _ _ _ _ _ _ us hl => match us, hl with | [_], _ => rfl) (fun vs H Q E h => ?_) (fun cdv A outer s H vs Q E hr h => ?_)
  · obtain ⟨b, m, rfl, ⟨dx, fs, hi, hp⟩, hs, hd, hu, k⟩ := h
    rfl
  · obtain ⟨b, m, rfl, ⟨dx, fs, hi, hp⟩, hs, hd, hu, k⟩ := h
    refine ⟨_, (pss_cons (ps_set (i := 1) sc_Making_str.nd rfl (by first | exact Or.inl rfl | exact Or.inr rfl) (pe_lst (pa_cons pe_str (pa_cons (kFld (K := K) rfl (pv 0)) (pa_cons (kFld (K := K) rfl (pv 0)) (pa_cons pe_str pa_nil)))))) (pss_one (ps_ret (pe_join pe_str (pe_op (kAdd (K := K) rfl) (pe_op (kAdd (K := K) rfl) (pe_op (kAdd (K := K) rfl) (pv 1) (pe_callTy (kList (K := K) rfl) (by rfl) T.z_list (by decide +kernel) (pa_cons (kFld (K := K) rfl (pv 0)) pa_nil))) (pe_lst (pa_cons pe_str pa_nil))) (pe_callTy (kList (K := K) rfl) (by rfl) T.z_list (by decide +kernel) (pa_cons (kFld (K := K) rfl (pv 0)) pa_nil))))))), ?_⟩
    obtain ⟨a1, d1, d1'⟩ := hp.dn
    obtain ⟨a2, u1, u1'⟩ := hp.up
    refine rd_start (σ' := [some _, none]) rfl ?_
    walk_at "rd"
    refine rd_fldr hi T.c_Making T.n_Making_maker hp.kr ?_
    walk_at "rd"
    refine rd_fldr hi T.c_Making T.n_Making_made hp.md ?_
    walk_at "rd"
    refine nw_in fun q1 H1 n1 s1 h1 => ?_
    walk_at "rd"
    refine rd_fldr (s1 _ _ hi) T.c_Making T.n_Making_down d1 ?_
    walk_at "rd"
    refine rd_listT (.inl (.inl (s1 _ _ d1'))) ?_
    refine nw_in fun q2 H2 n2 s2 h2 => ?_
    refine rd_addL (.inl (.inl (s2 _ _ h1))) (.inl (.inl h2)) (le_size (by rw [List.length_map]; show 4 + _ ≤ _; omega)) ?_
    refine nw_in fun q3 H3 n3 s3 h3 => ?_
    walk_at "rd"
    refine nw_in fun q4 H4 n4 s4 h4 => ?_
    refine rd_addL (.inl (.inl (s4 _ _ h3))) (.inl (.inl h4)) (le_size (by rw [List.length_append, List.length_map]; show 4 + _ + 1 ≤ _; omega)) ?_
    refine nw_in fun q5 H5 n5 s5 h5 => ?_
    have s05 := Same.trans s1 (Same.trans s2 (Same.trans s3 (Same.trans s4 s5)))
    walk_at "rd"
    refine rd_fldr (s05 _ _ hi) T.c_Making T.n_Making_up u1 ?_
    walk_at "rd"
    refine rd_listT (.inl (.inl (s05 _ _ u1'))) ?_
    refine nw_in fun q6 H6 n6 s6 h6 => ?_
    refine rd_addL (.inl (.inl (s6 _ _ h5))) (.inl (.inl h6)) (le_size (by rw [List.length_append, List.length_append, List.length_map, List.length_map]; show 4 + _ + 1 + _ ≤ _; omega)) ?_
    refine nw_in fun q7 H7 n7 s7 h7 => ?_
    walk_at "rd"
    refine joinr (ys := (["making", m.maker, m.made, ">"] : List Str) ++ m.down ++ (["<"] : List Str) ++ m.up) (.inl (.inl (.inl (by rw [h7]; simp)))) (join_room (fun z hz => ?_) (by rw [List.length_append, List.length_append, List.length_append]; show 4 + _ + 1 + _ ≤ _; omega) (by decide)) ?_
    · have : z = "making" ∨ z = ">" ∨ z = "<" ∨ z ∈ m.maker :: m.made :: (m.down ++ m.up) := by
        simp at hz ⊢
        rcases hz with h | h | h | h | h | h | h <;> simp [h]
      rcases this with rfl | rfl | rfl | h
      · decide
      · decide
      · decide
      · exact hs z h
    exact k H7 (Same.trans s05 (Same.trans s6 s7))
end

section
variable {P : Program} {w : World} {K : PySem.W.Frag} {mg : Str → Option Value} {base : Heap}
/-! ### the law's helpers -/
def StOk (H : Hp) (s : Addr) : Prop := ∃ a b c : Int, H s = some (.lst [.int a, .int b, .int c]) ∧ 0 ≤ a ∧ 0 ≤ b ∧ b < 2147483637 ∧ 0 ≤ c ∧ c < 2147483587
theorem StOk.same {H H' : Hp} {s : Addr} (e : Same H H') (h : StOk H s) : StOk H' s := by
  obtain ⟨a, b, c, h, r⟩ := h
  exact ⟨a, b, c, e _ _ h, r⟩
def badStart (cs : List Nat) : Bool := match cs with
  | [] => true
  | c :: r => decide (12 < (c :: r).length) || decide (c ∈ figs)
def bothS : List Nat := ("abcdefghijklmnopqrstuvwxyz0123456789" : Str).cps.toList
theorem both_eq : bothS = lets ++ figs := by decide +kernel
theorem figs_not : ∀ x ∈ figs, x ∉ lets := by decide +kernel
theorem both_mem (c : Nat) : decide (c ∈ bothS) = signOk c := by
  rw [both_eq]
  unfold signOk
  rw [Bool.eq_iff_iff, Bool.or_eq_true, decide_eq_true_eq, decide_eq_true_eq, decide_eq_true_eq, List.mem_append]
theorem isName_bad {t : Str} (h : badStart t.cps.toList = true) : isName t = false := by
  unfold isName
  cases e : t.cps.toList with
  | nil => rfl
  | cons c r =>
    rw [e] at h
    have h' : (decide (12 < (c :: r).length) || decide (c ∈ figs)) = true := h
    show ((decide ((c :: r).length ≤ 12) && decide (c ∈ lets)) && _) = false
    rw [Bool.or_eq_true, decide_eq_true_eq, decide_eq_true_eq] at h'
    rcases h' with h' | h'
    · rw [show decide ((c :: r).length ≤ 12) = false from decide_eq_false (by omega)]; rfl
    · rw [show decide (c ∈ lets) = false from decide_eq_false (figs_not c h'), Bool.and_false]; rfl
theorem isName_all {t : Str} (h : badStart t.cps.toList = false) : t.cps.toList.all (fun c => decide (c ∈ bothS)) = isName t := by
  unfold isName
  simp only [both_mem]
  cases e : t.cps.toList with
  | nil => rw [e] at h; cases h
  | cons c r =>
    rw [e] at h
    have h' : (decide (12 < (c :: r).length) || decide (c ∈ figs)) = false := h
    rw [Bool.or_eq_false_iff, decide_eq_false_iff_not, decide_eq_false_iff_not] at h'
    show ((c :: r).all signOk) = ((decide ((c :: r).length ≤ 12) && decide (c ∈ lets)) && (c :: r).all signOk)
    rw [show decide ((c :: r).length ≤ 12) = true from decide_eq_true (by omega), Bool.true_and, List.all_cons]
    have e1 : signOk c = decide (c ∈ lets) := by unfold signOk; rw [decide_eq_false h'.2, Bool.or_false]
    rw [e1, ← Bool.and_assoc, Bool.and_self]

def sp_law_state (K : PySem.W.Frag) : Sp := fun vs H Q E => ∃ (i : Int), vs = [.int i] ∧ ∀ s H', H s = none → Same H H' → StOk H' s → Q (.ref s) H'
theorem ok_law_state (T : Txt K mg) : OkD P w K mg base 1 (He.ga K "_law_state") ["_law_cell"] (sp_law_state K) := by
  refine OkD.of T.d_law_state sc_law_state (fun _ _ _ _ _ _ us hl => match us, hl with | [_], _ => rfl) (fun vs H Q E h => ?_) (fun cdv A outer s H vs Q E hr h => ?_)
  · obtain ⟨i, rfl, k⟩ := h
    rfl
  · obtain ⟨i, rfl, k⟩ := h
    refine ⟨_, (pss_cons (ps_set (i := 0) sc_law_state.nd rfl (by first | exact Or.inl rfl | exact Or.inr rfl) (pe_callB call_abs (by rfl) T.z_abs (by decide +kernel) (pa_cons (pv 0) pa_nil))) (pss_one (ps_ret (pe_lst (pa_cons (pe_op op_mulU (pv 0) (pe_callTy call_intU (by rfl) T.z_int (by decide +kernel) (pa_cons (pe_cmpR op_ge (pv 0) (pe_op op_pow pe_int pe_int) (nomark _)) pa_nil))) (pa_cons (pe_op (kAdd (K := K) rfl) (pe_op op_mod (pv 0) pe_int) pe_int) (pa_cons (pe_op op_mod (pv 0) pe_int) pa_nil))))))), ?_⟩
    refine rd_start (σ' := [some _]) rfl ?_
    walk_at "rd"
    refine ⟨_, rfl, ?_⟩
    have hj : 0 ≤ (if i < 0 then -i else i) := by split <;> omega
    generalize (if i < 0 then -i else i) = j at hj ⊢
    walk_at "rd"
    refine rd_I ⟨by decide, by decide, by decide⟩ ?_
    walk_at "rd"
    refine rd_mulI (.inr (.inr ⟨by split <;> decide, by split <;> decide⟩)) ?_
    walk_at "rd"
    refine rd_I (by decide) ?_
    walk_at "rd"
    refine rd_I (by decide) ?_
    walk_at "rd"
    refine nw_in fun q H1 n1 s1 h1 => ?_
    exact k q H1 n1 s1 ⟨_, _, _, h1, Int.mul_nonneg hj (by split <;> decide), by omega, by omega, by omega, by omega⟩

def sp_law_digit (K : PySem.W.Frag) : Sp := fun vs H Q E => ∃ (s : Addr) (b : Int), vs = [.ref s, .int b] ∧ StOk H s ∧ 0 < b ∧ b < 1000000 ∧ ∀ d H', Sb s H H' → StOk H' s → 0 ≤ d → d < b → Q (.int d) H'
theorem ok_law_digit (T : Txt K mg) : OkD P w K mg base 1 (He.ga K "_law_digit") ["_law_state_here", "_law_base"] (sp_law_digit K) := by
  refine OkD.of T.d_law_digit sc_law_digit (fun _ _ _ _ _ _ us hl => match us, hl with | [_, _], _ => rfl) (fun vs H Q E h => ?_) (fun cdv A outer s H vs Q E hr h => ?_)
  · obtain ⟨s, b, rfl, ⟨x, y, z, hs, h1, h2, h3, h4, h5⟩, hb, hb', k⟩ := h
    rfl
  · obtain ⟨s, b, rfl, ⟨x, y, z, hs, h1, h2, h3, h4, h5⟩, hb, hb', k⟩ := h
    refine ⟨_, (pss_cons (ps_if (pt_cmpR op_gt (pe_ix (kIx (K := K) rfl) (pv 0) pe_int (fun _ _ => rfl)) pe_int (nomark _)) (pss_cons (ps_set (i := 2) sc_law_digit.nd rfl (by first | exact Or.inl rfl | exact Or.inr rfl) (pe_op op_mod (pe_ix (kIx (K := K) rfl) (pv 0) pe_int (fun _ _ => rfl)) (pv 1))) (pss_cons (ps_asg (pe_op op_fdiv (pe_ix (kIx (K := K) rfl) (pv 0) pe_int (fun _ _ => rfl)) (pv 1)) (pg_sub (pv 0) pe_int set_list)) (pss_one (ps_ret (pv 2))))) pss_nil) (pss_cons (ps_set (i := 3) sc_law_digit.nd rfl (by first | exact Or.inl rfl | exact Or.inr rfl) (pe_op op_mulU (pe_ix (kIx (K := K) rfl) (pv 0) pe_int (fun _ _ => rfl)) (pe_op (kAdd (K := K) rfl) (pe_op op_fdiv (pe_ix (kIx (K := K) rfl) (pv 0) pe_int (fun _ _ => rfl)) pe_int) pe_int))) (pss_cons (ps_asg (pe_op (kAdd (K := K) rfl) (pe_op op_mod (pe_op (kAdd (K := K) rfl) (pv 3) (pe_ix (kIx (K := K) rfl) (pv 0) pe_int (fun _ _ => rfl))) pe_int) pe_int) (pg_sub (pv 0) pe_int set_list)) (pss_one (ps_ret (pe_op op_mod (pe_op op_fdiv (pe_ix (kIx (K := K) rfl) (pv 0) pe_int (fun _ _ => rfl)) pe_int) (pv 1))))))), ?_⟩
    refine rd_start (σ' := [some _, some _, none, none]) rfl ?_
    walk_at "rd"
    refine rd_ixL (v := .int x) (.inl (.inl hs)) (at_j 0 rfl rfl) ?_
    walk_at "rd"
    by_cases hx : 0 < x
    · rw [decide_eq_true hx]
      walk_at "rd"
      refine rd_ixL (v := .int x) (.inl (.inl hs)) (at_j 0 rfl rfl) ?_
      walk_at "rd"
      refine rd_I hb ?_
      walk_at "rd"
      refine rd_ixL (v := .int x) (.inl (.inl hs)) (at_j 0 rfl rfl) ?_
      walk_at "rd"
      refine rd_I ⟨hb, by omega⟩ ?_
      walk_at "rd"
      refine rd_setL 0 hs rfl ?_
      walk_at "rd"
      exact k _ _ (Sb.up (Sb.refl H)) ⟨_, _, _, upd_same, Int.ediv_nonneg h1 (by omega), h2, h3, h4, h5⟩ (Int.emod_nonneg _ (by omega)) (Int.emod_lt_of_pos _ hb)
    · rw [decide_eq_false hx]
      walk_at "rd"
      refine rd_ixL (v := .int y) (.inl (.inl hs)) (at_j 1 rfl rfl) ?_
      walk_at "rd"
      refine rd_ixL (v := .int y) (.inl (.inl hs)) (at_j 1 rfl rfl) ?_
      walk_at "rd"
      refine rd_I ⟨by decide, by decide⟩ ?_
      walk_at "rd"
      refine rd_mulI (.inr (.inl ⟨by omega, by omega⟩)) ?_
      walk_at "rd"
      refine rd_ixL (v := .int z) (.inl (.inl hs)) (at_j 2 rfl rfl) ?_
      walk_at "rd"
      refine rd_I (by decide) ?_
      walk_at "rd"
      refine rd_setL 1 hs rfl ?_
      walk_at "rd"
      refine rd_ixL (.inl (.inl upd_same)) (at_j 1 rfl rfl) ?_
      walk_at "rd"
      refine rd_I ⟨by decide, by decide⟩ ?_
      walk_at "rd"
      refine rd_I hb ?_
      exact k _ _ (Sb.up (Sb.refl H)) ⟨_, _, _, upd_same, h1, by omega, by omega, h4, h5⟩ (Int.emod_nonneg _ (by omega)) (Int.emod_lt_of_pos _ hb)
end

section
variable {P : Program} {w : World} {K : PySem.W.Frag} {mg : Str → Option Value} {base : Heap}
/-! ### names that are drawn -/
theorem isName_of {t : Str} {c : Nat} {r : List Nat} (e : t.cps.toList = c :: r) (hc : c ∈ lets) (hr : ∀ d ∈ r, d ∈ bothS) (hl : r.length ≤ 11) : isName t = true := by
  have hb : badStart t.cps.toList = false := by
    rw [e]
    show (decide (12 < (c :: r).length) || decide (c ∈ figs)) = false
    rw [decide_eq_false (by rw [List.length_cons]; omega), decide_eq_false fun z => figs_not c z hc]
    rfl
  rw [← isName_all hb, e, List.all_eq_true]
  intro d hd
  refine decide_eq_true ?_
  rcases List.mem_cons.mp hd with rfl | h
  · rw [both_eq]; exact List.mem_append_left _ hc
  · exact hr d h
theorem isName_len {t : Str} (h : isName t = true) : t.length ≤ 12 := by
  unfold isName isNameL at h
  rw [Bool.and_eq_true] at h
  rw [str_len]
  cases e : t.cps.toList with
  | nil => rw [e] at h; cases h.1
  | cons c r =>
    rw [e] at h
    have h1 : (decide ((c :: r).length ≤ 12) && decide (c ∈ lets)) = true := h.1
    rw [Bool.and_eq_true, decide_eq_true_eq] at h1
    exact h1.1
theorem head36 : ∀ i : Nat, i < 26 → bothS.getD i 0 ∈ lets := by decide +kernel
theorem Sb.upn {b q : Addr} {o : HO} {H H' : Hp} (s : Sb b H H') (h : H q = none) : Sb b H (upd H' q o) := fun a u n e => by
  rw [upd_ne (ne_of_none e h)]
  exact s a u n e
theorem StOk.upn {H : Hp} {s q : Addr} {o : HO} (h : StOk H s) (n : s ≠ q) : StOk (upd H q o) s := by
  obtain ⟨a, b, c, e, r⟩ := h
  exact ⟨a, b, c, by rw [upd_ne n]; exact e, r⟩
theorem StOk.ne {H : Hp} {s q : Addr} (h : StOk H s) (n : H q = none) : s ≠ q := by
  obtain ⟨a, b, c, e, r⟩ := h
  exact ne_new e n
theorem StOk.keep {H H' : Hp} {s : Addr} (h : StOk H s) (e : Sb s H H') : KeepT H H' := by
  obtain ⟨a, b, c, e1, r⟩ := h
  exact Sb.keep e1 (fun _ z => by cases z) e

def sp_law_long (K : PySem.W.Frag) : Sp := fun vs H Q E => ∃ (s : Addr), vs = [.ref s] ∧ StOk H s ∧ ∀ (x : Str) H', Sb s H H' → StOk H' s → isName x = true → Q (.str x) H'
theorem ok_law_long (T : Txt K mg) : OkD P w K mg base 3 (He.ga K "_law_long") ["_law_s"] (sp_law_long K) := by
  have G_law_digit := ok_law_digit (P := P) (w := w) (base := base) T
  refine OkD.of T.d_law_long sc_law_long (fun _ _ _ _ _ _ us hl => match us, hl with | [_], _ => rfl) (fun vs H Q E h => ?_) (fun cdv A outer s H vs Q E hr h => ?_)
  · obtain ⟨s, rfl, hs, k⟩ := h
    rfl
  · obtain ⟨s, rfl, hs, k⟩ := h
    refine ⟨_, (pss_cons (ps_set (i := 1) sc_law_long.nd rfl (by first | exact Or.inl rfl | exact Or.inr rfl) pe_str) (pss_cons (ps_if (pt_cmpR (kEq (K := K) rfl hr.units) (pe_fn G_law_digit (hr.mono (by decide)) rfl T.g_law_digit (passes_call (takes_of rfl rfl rfl rfl) (fun _ _ _ _ h => h)) (pa_cons (pv 0) (pa_cons pe_int pa_nil))) pe_int (nomark _)) (pss_one (ps_ret (pe_ix (kIx (K := K) rfl) (pe_lst (pa_cons pe_str (pa_cons pe_str (pa_cons pe_str (pa_cons pe_str (pa_cons pe_str (pa_cons pe_str pa_nil))))))) (pe_fn G_law_digit (hr.mono (by decide)) rfl T.g_law_digit (passes_call (takes_of rfl rfl rfl rfl) (fun _ _ _ _ h => h)) (pa_cons (pv 0) (pa_cons pe_int pa_nil))) (fun _ _ => rfl)))) pss_nil) (pss_cons (ps_set (i := 2) sc_law_long.nd rfl (by first | exact Or.inl rfl | exact Or.inr rfl) (pe_ix (kIx (K := K) rfl) (pv 1) (pe_fn G_law_digit (hr.mono (by decide)) rfl T.g_law_digit (passes_call (takes_of rfl rfl rfl rfl) (fun _ _ _ _ h => h)) (pa_cons (pv 0) (pa_cons pe_int pa_nil))) (fun _ _ => rfl))) (pss_cons (ps_for (passes_of rfl) rfl (pi_range1 rfl T.z_range (pa_cons (pe_op (kAdd (K := K) rfl) (pe_fn G_law_digit (hr.mono (by decide)) rfl T.g_law_digit (passes_call (takes_of rfl rfl rfl rfl) (fun _ _ _ _ h => h)) (pa_cons (pv 0) (pa_cons pe_int pa_nil))) (pe_op op_mulU pe_int (pe_op op_fdiv (pe_fn G_law_digit (hr.mono (by decide)) rfl T.g_law_digit (passes_call (takes_of rfl rfl rfl rfl) (fun _ _ _ _ h => h)) (pa_cons (pv 0) (pa_cons pe_int pa_nil))) pe_int))) pa_nil)) (pg_name (i := 3) sc_law_long.nd rfl (by first | exact Or.inl rfl | exact Or.inr rfl)) (pss_one (ps_set (i := 2) sc_law_long.nd rfl (by first | exact Or.inl rfl | exact Or.inr rfl) (pe_op (kAdd (K := K) rfl) (pv 2) (pe_ix (kIx (K := K) rfl) (pv 1) (pe_fn G_law_digit (hr.mono (by decide)) rfl T.g_law_digit (passes_call (takes_of rfl rfl rfl rfl) (fun _ _ _ _ h => h)) (pa_cons (pv 0) (pa_cons pe_int pa_nil))) (fun _ _ => rfl)))))) (pss_one (ps_ret (pv 2))))))), ?_⟩
    refine rd_start (σ' := [some _, none, none, none]) rfl ?_
    walk_at "rd"
    refine ⟨s, 9, rfl, hs, by decide, by decide, fun d9 H1 b1 st1 _ _ => ?_⟩
    walk_at "rd"
    refine rd_eqS rfl ?_
    walk_at "rd"
    have l36 : bothS.length = 36 := by decide +kernel
    refine rd_ite (fun h => ?_) (fun h => ?_)
    · walk_at "rd"
      refine nw_in fun q H2 n2 s2 h2 => ?_
      walk_at "rd"
      refine ⟨s, 6, rfl, st1.same s2, by decide, by decide, fun d H3 b3 st3 d0 d1 => ?_⟩
      have h2' : H3 q = some (.lst ((["by", "rule", "bar", "making", "m1", "none"] : List Str).map V.str)) := b3 _ _ (Ne.symm ((st1.ne n2))) h2
      obtain ⟨x, hx, ex⟩ := atI_strs (xs := ["by", "rule", "bar", "making", "m1", "none"]) (i := d) d0 (by show _ < (6 : Int); omega)
      refine rd_ixL (.inl (.inl h2')) ex ?_
      have hl : ∀ x ∈ (["by", "rule", "bar", "making", "m1", "none"] : List Str), isName x = true := by decide +kernel
      exact k x H3 (Sb.trans b1 (Sb.trans (Sb.of s2) b3)) st3 (hl x hx)
    clear h
    walk_at "rd"
    refine ⟨s, 26, rfl, st1, by decide, by decide, fun d H2 b2 st2 d0 d1 => ?_⟩
    have ec : atI ("abcdefghijklmnopqrstuvwxyz0123456789" : Str).cps.toList d = some (bothS.getD d.toNat 0) := at_j d.toNat (by omega) (by
      show bothS[d.toNat]? = _
      rw [List.getD_eq_getElem?_getD, List.getElem?_eq_getElem (by rw [l36]; omega)]
      rfl)
    have hc0 := head36 d.toNat (by omega)
    refine rd_ixS (by decide +kernel) ec ?_
    generalize bothS.getD d.toNat 0 = c0 at hc0 ⊢
    walk_at "rd"
    refine ⟨s, 4, rfl, st2, by decide, by decide, fun d4 H3 b3 st3 d40 d41 => ?_⟩
    walk_at "rd"
    refine ⟨s, 5, rfl, st3, by decide, by decide, fun d5 H4 b4 st4 d50 d51 => ?_⟩
    walk_at "rd"
    refine rd_I ⟨by decide, by decide⟩ ?_
    refine rd_mulI (.inr (.inl ⟨by decide, by decide⟩)) ?_
    walk_at "rd"
    refine ⟨_, rfl, by omega, by omega, ?_⟩
    refine for_it walk_range (fun i σ H' => Sb s H H' ∧ StOk H' s ∧ ∃ (w : Str) (v : Option V) (r : List Nat), σ = [some (.ref s), some (.str "abcdefghijklmnopqrstuvwxyz0123456789"), some (.str w), v] ∧ w.cps.toList = c0 :: r ∧ r.length = i ∧ ∀ d ∈ r, d ∈ bothS) ⟨Sb.trans b1 (Sb.trans b2 (Sb.trans b3 b4)), st4, ⟨#[c0]⟩, none, [], rfl, rfl, rfl, fun _ h => by cases h⟩ (fun _ _ _ _ _ => trivial) ?_ ?_
    · rintro i x σ H5 H6 hi ⟨b5, st5, w, v, r, rfl, hw, hr, ha⟩ ⟨rfl, rfl⟩
      walk_at "rd"
      refine ⟨s, 36, rfl, st5, by decide, by decide, fun d H7 b7 st7 d0 d1 => ?_⟩
      obtain ⟨c, hc, hm⟩ := atI_in (xs := ("abcdefghijklmnopqrstuvwxyz0123456789" : Str).cps.toList) (i := d) d0 (by show d < (bothS.length : Int); rw [l36]; omega)
      refine rd_ixS (c := c) (by decide +kernel) hc ?_
      have l1 : (⟨#[c]⟩ : Str).length = 1 := rfl
      have lw : w.length ≤ 12 := by rw [str_len, hw, List.length_cons]; omega
      refine rd_addS (le_size (by rw [l1]; omega)) ?_
      walk_at "rd"
      refine ⟨Sb.trans b5 b7, st7, _, _, r ++ [c], rfl, ?_, ?_, ?_⟩
      · rw [Str.cps_append, Array.toList_append, hw]
        rfl
      · rw [List.length_append, hr]; rfl
      · intro e he
        rcases List.mem_append.mp he with h | h
        · exact ha e h
        · rw [List.mem_singleton.mp h]; exact hm
    · rintro σ H5 ⟨b5, st5, w, v, r, rfl, hw, hr, ha⟩
      walk_at "rd"
      exact k w H5 b5 st5 (isName_of hw hc0 ha (by omega))
def Good (xs : List Str) : Prop := xs.Nodup ∧ ∀ x ∈ xs, isName x = true
def sp_law_names (K : PySem.W.Frag) : Sp := fun vs H Q E => ∃ (s : Addr) (n : Int), vs = [.ref s, .int n] ∧ StOk H s ∧ 0 ≤ n ∧ n ≤ 100 ∧ ∀ q H' (xs : List Str), H q = none → Sb s H H' → StOk H' s → H' q = some (.lst (xs.map V.str)) → Good xs → (xs.length : Int) ≤ n → (1 ≤ n → xs ≠ []) → Q (.ref q) H'
theorem ok_law_names (T : Txt K mg) : OkD P w K mg base 4 (He.ga K "_law_names") ["_law_s", "_law_many"] (sp_law_names K) := by
  have G_law_long := ok_law_long (P := P) (w := w) (base := base) T
  refine OkD.of T.d_law_names sc_law_names (fun _ _ _ _ _ _ us hl => match us, hl with | [_, _], _ => rfl) (fun vs H Q E h => ?_) (fun cdv A outer s H vs Q E hr h => ?_)
  · obtain ⟨s, n, rfl, hs, n0, n1, k⟩ := h
    rfl
  · obtain ⟨s, n, rfl, hs, n0, n1, k⟩ := h
    refine ⟨_, (pss_cons (ps_set (i := 2) sc_law_names.nd rfl (by first | exact Or.inl rfl | exact Or.inr rfl) (pe_lst pa_nil)) (pss_cons (ps_for (passes_of rfl) rfl (pi_range1 rfl T.z_range (pa_cons (pv 1) pa_nil)) (pg_name (i := 3) sc_law_names.nd rfl (by first | exact Or.inl rfl | exact Or.inr rfl)) (pss_cons (ps_set (i := 4) sc_law_names.nd rfl (by first | exact Or.inl rfl | exact Or.inr rfl) (pe_fn G_law_long (hr.mono (by decide)) rfl T.g_law_long (passes_call (takes_of rfl rfl rfl rfl) (fun _ _ _ _ h => h)) (pa_cons (pv 0) pa_nil))) (pss_one (ps_if (pt_cmpR (kNin (K := K) rfl) (pv 4) (pv 2) (by rfl)) (pss_one (ps_expr (pe_bm PySem.F.plainAttrs_list PySem.F.slot_list_append PySem.F.type_list_append mt_append (pv 2) (pa_cons (pv 4) pa_nil)))) pss_nil)))) (pss_one (ps_ret (pv 2))))), ?_⟩
    refine rd_start (σ' := [some _, some _, none, none, none]) rfl ?_
    walk_at "rd"
    refine nw_in fun q H1 nq s1 hq => ?_
    walk_at "rd"
    refine ⟨_, rfl, by omega, by omega, ?_⟩
    have nsq : s ≠ q := hs.ne nq
    refine for_it walk_range (fun i σ H' => Sb s H H' ∧ StOk H' s ∧ ∃ (xs : List Str) (v w : Option V), σ = [some (.ref s), some (.int n), some (.ref q), v, w] ∧ H' q = some (.lst (xs.map V.str)) ∧ Good xs ∧ xs.length ≤ i ∧ (1 ≤ i → xs ≠ [])) ⟨Sb.of s1, hs.same s1, [], _, _, rfl, hq, ⟨.nil, fun _ h => by cases h⟩, Nat.le_refl _, fun h => absurd h (by decide)⟩ (fun _ _ _ _ _ => trivial) ?_ ?_
    · rintro i x σ H5 H6 hi ⟨b5, st5, xs, v, w, rfl, hx, hg, hl, hne⟩ ⟨rfl, rfl⟩
      walk_at "rd"
      refine ⟨s, rfl, st5, fun z H7 b7 st7 hz => ?_⟩
      have hx7 := b7 _ _ (Ne.symm nsq) hx
      walk_at "rd"
      refine rd_ninStrs (.inl (.inl (.inl hx7))) ?_
      walk_at "rd"
      by_cases e : z ∈ xs
      · rw [decide_eq_true e]
        walk_at "rd"
        exact ⟨Sb.trans b5 b7, st7, xs, _, _, rfl, hx7, hg, by omega, fun _ z => by rw [z] at e; cases e⟩
      · rw [decide_eq_false e]
        walk_at "rd"
        refine rd_ap hx7 ?_
        walk_at "rd"
        refine apd hx7 (by rw [List.length_map]; omega) ?_
        walk_at "rd"
        refine ⟨Sb.upn (Sb.trans b5 b7) nq, st7.upn nsq, xs ++ [z], _, _, rfl, by rw [upd_same, List.map_append]; rfl, ⟨?_, ?_⟩, by rw [List.length_append, List.length_singleton]; omega, fun _ h => by simp at h⟩
        · rw [List.nodup_append]
          refine ⟨hg.1, by simp, fun a ha b hb => ?_⟩
          rw [List.mem_singleton.mp hb]
          exact fun h => e (h ▸ ha)
        · intro a ha
          rcases List.mem_append.mp ha with h | h
          · exact hg.2 a h
          · rw [List.mem_singleton.mp h]; exact hz
    · rintro σ H5 ⟨b5, st5, xs, v, w, rfl, hx, hg, hl, hne⟩
      walk_at "rd"
      exact k q H5 xs nq b5 st5 hx hg (by omega) fun h => hne (by omega)
end

section
variable {P : Program} {w : World} {K : PySem.W.Frag} {mg : Str → Option Value} {base : Heap}
theorem good_sorts {x : Str} (h : isName x = true) : x.length ≤ 12 := isName_len h
/-- variables whose names are these, their sorts names -/
def VarsOk (vs : List (Str × Option Str)) (xs : List Str) : Prop := vs.map Prod.fst = xs ∧ ∀ v ∈ vs, ∀ s, v.2 = some s → isName s = true
def sp_law_variables (K : PySem.W.Frag) : Sp := fun vs H Q E => ∃ (s : Addr), vs = [.ref s] ∧ StOk H s ∧ ∀ q H' vv (vars : List (Str × Option Str)) (xs : List Str), H q = none → Sb s H H' → StOk H' s → H' q = some (.lst vv) → DtAll H' vv (vars.map encV) → VarsOk vars xs → Good xs → xs ≠ [] → xs.length ≤ 4 → Q (.ref q) H'
theorem ok_law_variables (T : Txt K mg) : OkD P w K mg base 5 (He.ga K "_law_variables") ["_law_s"] (sp_law_variables K) := by
  have G_law_names := ok_law_names (P := P) (w := w) (base := base) T
  have G_law_digit := ok_law_digit (P := P) (w := w) (base := base) T
  have G_law_long := ok_law_long (P := P) (w := w) (base := base) T
  refine OkD.of T.d_law_variables sc_law_variables (fun _ _ _ _ _ _ us hl => match us, hl with | [_], _ => rfl) (fun vs H Q E h => ?_) (fun cdv A outer s H vs Q E hr h => ?_)
  · obtain ⟨s, rfl, hs, k⟩ := h
    rfl
  · obtain ⟨s, rfl, hs, k⟩ := h
    refine ⟨_, (pss_cons (ps_set (i := 1) sc_law_variables.nd rfl (by first | exact Or.inl rfl | exact Or.inr rfl) (pe_lst pa_nil)) (pss_cons (ps_for (passes_of rfl) rfl (kSeq (K := K) rfl (pe_fn G_law_names (hr.mono (by decide)) rfl T.g_law_names (passes_call (takes_of rfl rfl rfl rfl) (fun _ _ _ _ h => h)) (pa_cons (pv 0) (pa_cons (pe_op (kAdd (K := K) rfl) pe_int (pe_fn G_law_digit (hr.mono (by decide)) rfl T.g_law_digit (passes_call (takes_of rfl rfl rfl rfl) (fun _ _ _ _ h => h)) (pa_cons (pv 0) (pa_cons pe_int pa_nil)))) pa_nil)))) (pg_name (i := 2) sc_law_variables.nd rfl (by first | exact Or.inl rfl | exact Or.inr rfl)) (pss_one (ps_expr (pe_bm PySem.F.plainAttrs_list PySem.F.slot_list_append PySem.F.type_list_append mt_append (pv 1) (pa_cons (pe_tup (pa_cons (pv 2) (pa_cons (pe_ix (kIx (K := K) rfl) (pe_lst (pa_cons pe_non (pa_cons (pe_fn G_law_long (hr.mono (by decide)) rfl T.g_law_long (passes_call (takes_of rfl rfl rfl rfl) (fun _ _ _ _ h => h)) (pa_cons (pv 0) pa_nil)) pa_nil))) (pe_fn G_law_digit (hr.mono (by decide)) rfl T.g_law_digit (passes_call (takes_of rfl rfl rfl rfl) (fun _ _ _ _ h => h)) (pa_cons (pv 0) (pa_cons pe_int pa_nil))) (fun _ _ => rfl)) pa_nil))) pa_nil))))) (pss_one (ps_ret (pv 1))))), ?_⟩
    refine rd_start (σ' := [some _, none, none]) rfl ?_
    walk_at "rd"
    refine nw_in fun q H1 nq s1 hq => ?_
    have nsq : s ≠ q := hs.ne nq
    walk_at "rd"
    refine ⟨s, 4, rfl, hs.same s1, by decide, by decide, fun d H2 b2 st2 d0 d1 => ?_⟩
    walk_at "rd"
    refine ⟨s, 1 + d, rfl, st2, by omega, by omega, fun qn H3 xs nqn b3 st3 hqn hg hl hne => ?_⟩
    have hq3 : H3 q = some (.lst []) := b3 _ _ (Ne.symm nsq) (b2 _ _ (Ne.symm nsq) hq)
    have nsn : s ≠ qn := st2.ne nqn
    have nqq : q ≠ qn := ne_new (b2 _ _ (Ne.symm nsq) hq) nqn
    refine rd_itL (.inl (.inl hqn)) ?_
    have b03 : Sb s H H3 := Sb.trans (Sb.of s1) (Sb.trans b2 b3)
    refine for_list (K := K) (fun i σ H' => Sb s H H' ∧ StOk H' s ∧ H' qn = some (.lst (xs.map V.str)) ∧ ∃ (vv : List V) (vars : List (Str × Option Str)) (v : Option V), σ = [some (.ref s), some (.ref q), v] ∧ H' q = some (.lst vv) ∧ DtAll H' vv (vars.map encV) ∧ VarsOk vars (xs.take i)) ⟨b03, st3, hqn, [], [], _, rfl, hq3, .nil, rfl, fun _ h => by cases h⟩ (fun i σ H' _ p => .inl (.inl p.2.2.1)) ?_ ?_
    · rintro i y σ H4 hi ⟨b4, st4, hqn4, vv, vars, v, rfl, hq4, dv, hv⟩
      obtain ⟨x, hx, rfl⟩ := get_map hi
      have hlv : vv.length ≤ 1000 := by
        rw [dv.length, List.length_map, ← List.length_map (f := Prod.fst), hv.1, List.length_take]
        omega
      walk_at "rd"
      refine rd_ap hq4 ?_
      walk_at "rd"
      refine ⟨s, rfl, st4, fun z H5 b5 st5 hz => ?_⟩
      walk_at "rd"
      refine nw_in fun q6 H6 n6 s6 h6 => ?_
      walk_at "rd"
      refine ⟨s, 2, rfl, st5.same s6, by decide, by decide, fun e H7 b7 st7 e0 e1 => ?_⟩
      have n6s : s ≠ q6 := st5.ne n6
      have h67 := b7 _ _ (Ne.symm n6s) h6
      obtain ⟨so, hso, hsn⟩ : ∃ so : Option Str, atI [V.non, V.str z] e = some (oV so) ∧ ∀ s, so = some s → isName s = true := by
        have : e = 0 ∨ e = 1 := by omega
        rcases this with rfl | rfl
        · exact ⟨none, rfl, fun _ h => by cases h⟩
        · exact ⟨some z, rfl, fun s h => by cases h; exact hz⟩
      refine rd_ixL (.inl (.inl h67)) hso ?_
      walk_at "rd"
      refine nw_in fun q8 H8 n8 s8 h8 => ?_
      walk_at "rd"
      have b48 : Sb s H4 H8 := Sb.trans b5 (Sb.trans (Sb.of s6) (Sb.trans b7 (Sb.of s8)))
      have hq8 := b48 _ _ (Ne.symm nsq) hq4
      refine apd hq8 (by omega) ?_
      walk_at "rd"
      have kt : KeepT H8 (upd H8 q (.lst (vv ++ [.ref q8]))) := KeepT.up hq8 (fun _ z => by cases z)
      refine ⟨Sb.upn (Sb.trans b4 b48) nq, (st7.same s8).upn nsq, by rw [upd_ne (Ne.symm nqq)]; exact b48 _ _ (Ne.symm nsn) hqn4, vv ++ [.ref q8], vars ++ [(x, so)], _, rfl, upd_same, ?_, ?_, ?_⟩
      · rw [List.map_append]
        refine ((dv.mono (st4.keep b48)).mono kt).append (.cons (.tup (kt _ _ h8) (.cons (.str _) (.cons ?_ .nil))) .nil)
        cases so with
        | none => exact .non
        | some z => exact .str z
      · rw [List.map_append, hv.1, take_succ_of hx]
        rfl
      · intro v hv' s' hs'
        rcases List.mem_append.mp hv' with h | h
        · exact hv.2 v h s' hs'
        · rw [List.mem_singleton.mp h] at hs'
          exact hsn s' hs'
    · rintro σ H4 ⟨b4, st4, hqn4, vv, vars, v, rfl, hq4, dv, hv⟩
      rw [List.length_map, List.take_length] at hv
      walk_at "rd"
      exact k q H4 vv vars xs nq b4 st4 hq4 dv hv hg (hne (by omega)) (by omega)
end

section
variable {P : Program} {w : World} {K : PySem.W.Frag} {mg : Str → Option Value} {base : Heap}
/-! ### a chain of conditions over the names -/
structure Chain (xs : List Str) (cs : List Trip) : Prop where
  inn : ∀ z ∈ ends cs, z ∈ xs
  wd : ∀ c ∈ cs, isName c.2.1 = true
  ap : ∀ j, j < cs.length → apartAt cs j = false
theorem apart_app {cs : List Trip} {c : Trip} {j : Nat} (h : j < cs.length) : apartAt (cs ++ [c]) j = apartAt cs j := by
  unfold apartAt
  rw [List.getElem?_append_left h, List.take_append_of_le_length (Nat.le_of_lt h)]
theorem apart_end {cs : List Trip} {c : Trip} (h : cs.length = 0 ∨ c.1 ∈ ends cs ∨ c.2.2 ∈ ends cs) : apartAt (cs ++ [c]) cs.length = false := by
  unfold apartAt
  rw [List.getElem?_append_right (Nat.le_refl _), Nat.sub_self, List.take_append_of_le_length (Nat.le_refl _), List.take_length]
  show (decide (0 < cs.length) && (!decide (c.1 ∈ ends cs) && !decide (c.2.2 ∈ ends cs))) = false
  rcases h with h | h | h
  · rw [h]; rfl
  · rw [decide_eq_true h]; simp
  · rw [decide_eq_true h]; simp
theorem ends_snoc (cs : List Trip) (c : Trip) : ends (cs ++ [c]) = ends cs ++ [c.1, c.2.2] := by rw [ends_app]; rfl
theorem Chain.add {xs : List Str} {cs : List Trip} {c : Trip} (h : Chain xs cs) (h1 : c.1 ∈ xs) (h2 : c.2.2 ∈ xs) (hw : isName c.2.1 = true) (hc : cs.length = 0 ∨ c.1 ∈ ends cs ∨ c.2.2 ∈ ends cs) : Chain xs (cs ++ [c]) := by
  refine ⟨fun z hz => ?_, fun d hd => ?_, fun j hj => ?_⟩
  · rw [ends_snoc] at hz
    rcases List.mem_append.mp hz with h' | h'
    · exact h.inn z h'
    · simp at h'
      rcases h' with rfl | rfl
      · exact h1
      · exact h2
  · rcases List.mem_append.mp hd with h' | h'
    · exact h.wd d h'
    · rw [List.mem_singleton.mp h']; exact hw
  · rw [List.length_append, List.length_singleton] at hj
    by_cases e : j < cs.length
    · rw [apart_app e]; exact h.ap j e
    · have : j = cs.length := by omega
      rw [this]
      exact apart_end hc
theorem Chain.apart {xs : List Str} {cs : List Trip} (h : Chain xs cs) : firstApart cs = none := by
  unfold firstApart
  rw [List.find?_eq_none]
  intro j hj
  rw [h.ap j (List.mem_range.mp hj)]
  decide
theorem atI_neg1 {xs : List Str} (h : xs ≠ []) : ∃ x, x ∈ xs ∧ atI (xs.map V.str) (-1) = some (.str x) := by
  have e := List.dropLast_concat_getLast h
  refine ⟨xs.getLast h, List.getLast_mem h, ?_⟩
  have e2 : xs.map V.str = xs.dropLast.map V.str ++ [V.str (xs.getLast h)] := by
    conv => lhs; rw [← e]
    rw [List.map_append]
    rfl
  rw [e2]
  exact atI_last _ _

def sp_law_conditions (K : PySem.W.Frag) : Sp := fun vs H Q E => ∃ (s qn : Addr) (xs : List Str), vs = [.ref s, .ref qn] ∧ StOk H s ∧ H qn = some (.lst (xs.map V.str)) ∧ xs ≠ [] ∧ xs.length ≤ 4 ∧ ∀ q H' cv (cs : List Trip), H q = none → Sb s H H' → StOk H' s → H' q = some (.lst cv) → DtAll H' cv (cs.map encC) → Chain xs cs → (∀ x ∈ xs, x ∈ ends cs) → 1 ≤ cs.length → cs.length ≤ 3 → Q (.ref q) H'
theorem ok_law_conditions (T : Txt K mg) : OkD P w K mg base 4 (He.ga K "_law_conditions") ["_law_s", "_law_names_here"] (sp_law_conditions K) := by
  have G_law_digit := ok_law_digit (P := P) (w := w) (base := base) T
  have G_law_long := ok_law_long (P := P) (w := w) (base := base) T
  refine OkD.of T.d_law_conditions sc_law_conditions (fun _ _ _ _ _ _ us hl => match us, hl with | [_, _], _ => rfl) (fun vs H Q E h => ?_) (fun cdv A outer s H vs Q E hr h => ?_)
  · obtain ⟨s, qn, xs, rfl, hs, hqn, hne, hl4, k⟩ := h
    rfl
  · obtain ⟨s, qn, xs, rfl, hs, hqn, hne, hl4, k⟩ := h
    refine ⟨_, (pss_cons (ps_set (i := 2) sc_law_conditions.nd rfl (by first | exact Or.inl rfl | exact Or.inr rfl) (pe_lst pa_nil)) (pss_cons (ps_for (passes_of rfl) rfl (pi_range1 rfl T.z_range (pa_cons (pe_callB (call_max2 rfl) (by rfl) T.z_max (by decide +kernel) (pa_cons pe_int (pa_cons (pe_op op_sub (pe_callB (kLen (K := K) rfl) (by rfl) T.z_len (by decide +kernel) (pa_cons (pv 1) pa_nil)) pe_int) pa_nil))) pa_nil)) (pg_name (i := 3) sc_law_conditions.nd rfl (by first | exact Or.inl rfl | exact Or.inr rfl)) (pss_cons (ps_set (i := 4) sc_law_conditions.nd rfl (by first | exact Or.inl rfl | exact Or.inr rfl) (pe_lst (pa_cons (pe_ix (kIx (K := K) rfl) (pv 1) (pv 3) (fun _ _ => rfl)) (pa_cons (pe_ix (kIx (K := K) rfl) (pv 1) (pe_op op_mod (pe_op (kAdd (K := K) rfl) (pv 3) pe_int) (pe_callB (kLen (K := K) rfl) (by rfl) T.z_len (by decide +kernel) (pa_cons (pv 1) pa_nil))) (fun _ _ => rfl)) pa_nil)))) (pss_cons (ps_set (i := 5) sc_law_conditions.nd rfl (by first | exact Or.inl rfl | exact Or.inr rfl) (pe_fn G_law_digit (hr.mono (by decide)) rfl T.g_law_digit (passes_call (takes_of rfl rfl rfl rfl) (fun _ _ _ _ h => h)) (pa_cons (pv 0) (pa_cons pe_int pa_nil)))) (pss_one (ps_expr (pe_bm PySem.F.plainAttrs_list PySem.F.slot_list_append PySem.F.type_list_append mt_append (pv 2) (pa_cons (pe_tup (pa_cons (pe_ix (kIx (K := K) rfl) (pv 4) (pv 5) (fun _ _ => rfl)) (pa_cons (pe_fn G_law_long (hr.mono (by decide)) rfl T.g_law_long (passes_call (takes_of rfl rfl rfl rfl) (fun _ _ _ _ h => h)) (pa_cons (pv 0) pa_nil)) (pa_cons (pe_ix (kIx (K := K) rfl) (pv 4) (pe_op op_sub pe_int (pv 5)) (fun _ _ => rfl)) pa_nil)))) pa_nil))))))) (pss_cons (ps_if (PW.pt (pw_and (pt_cmpR op_lt (pe_callB (kLen (K := K) rfl) (by rfl) T.z_len (by decide +kernel) (pa_cons (pv 2) pa_nil)) pe_int (nomark _)) (pw_and1 (pt_cmpR (kEq (K := K) rfl hr.units) (pe_fn G_law_digit (hr.mono (by decide)) rfl T.g_law_digit (passes_call (takes_of rfl rfl rfl rfl) (fun _ _ _ _ h => h)) (pa_cons (pv 0) (pa_cons pe_int pa_nil))) pe_int (nomark _))))) (pss_one (ps_expr (pe_bm PySem.F.plainAttrs_list PySem.F.slot_list_append PySem.F.type_list_append mt_append (pv 2) (pa_cons (pe_tup (pa_cons (pe_ix (kIx (K := K) rfl) (pv 1) pe_int (fun _ _ => rfl)) (pa_cons (pe_fn G_law_long (hr.mono (by decide)) rfl T.g_law_long (passes_call (takes_of rfl rfl rfl rfl) (fun _ _ _ _ h => h)) (pa_cons (pv 0) pa_nil)) (pa_cons (pe_ix (kIx (K := K) rfl) (pv 1) (pe_un un_neg pe_int) (fun _ _ => rfl)) pa_nil)))) pa_nil)))) pss_nil) (pss_one (ps_ret (pv 2)))))), ?_⟩
    have hl1 : 1 ≤ xs.length := by
      cases xs with
      | nil => exact absurd rfl hne
      | cons _ _ => simp
    have nsn : s ≠ qn := fun z => by
      obtain ⟨a, b, c, e, _⟩ := hs
      rw [z, hqn] at e
      cases xs with
      | nil => cases e
      | cons x r => cases e
    refine rd_start (σ' := [some _, some _, none, none, none, none]) rfl ?_
    walk_at "rd"
    refine nw_in fun q H1 nq s1 hq => ?_
    have nsq : s ≠ q := hs.ne nq
    have nqq : qn ≠ q := ne_new hqn nq
    walk_at "rd"
    refine rd_lenL (.inl (.inl (s1 _ _ hqn))) ?_
    rw [List.length_map]
    walk_at "rd"
    refine ⟨_, _, rfl, ?_⟩
    refine ⟨_, rfl, by split <;> omega, by split <;> omega, ?_⟩
    have hM : ∃ m : Nat, (if ((xs.length : Int) - 1) > 1 then ((xs.length : Int) - 1) else 1).toNat = m ∧ 1 ≤ m ∧ m ≤ 3 ∧ xs.length ≤ m + 1 ∧ (∀ i, i < m → i < xs.length) := by
      refine ⟨_, rfl, ?_, ?_, ?_, fun i hi => ?_⟩
      · split <;> omega
      · split <;> omega
      · split <;> omega
      · split at hi <;> omega
    obtain ⟨m, em, m1, m3, mn, hlt⟩ := hM
    rw [em]
    refine for_it walk_range (fun i σ H' => Sb s H H' ∧ StOk H' s ∧ H' qn = some (.lst (xs.map V.str)) ∧ ∃ (cv : List V) (cs : List Trip) (u1 u2 u3 : Option V), σ = [some (.ref s), some (.ref qn), some (.ref q), u1, u2, u3] ∧ H' q = some (.lst cv) ∧ DtAll H' cv (cs.map encC) ∧ Chain xs cs ∧ cs.length = i ∧ ∀ j x, xs[j]? = some x → j ≤ i → 1 ≤ i → x ∈ ends cs) ⟨Sb.of s1, hs.same s1, s1 _ _ hqn, [], [], _, _, _, rfl, hq, .nil, ⟨fun _ h => (by cases h), fun _ h => (by cases h), fun _ h => (by cases h)⟩, rfl, fun _ _ _ _ h => absurd h (by decide)⟩ (fun _ _ _ _ _ => trivial) ?_ ?_
    · rintro i y σ H2 H3 hi ⟨b2, st2, hqn2, cv, cs, u1, u2, u3, rfl, hq2, dv, hch, hlen, hcov⟩ ⟨rfl, rfl⟩
      have hin := hlt i hi
      obtain ⟨x, hx⟩ : ∃ x, xs[i]? = some x := ⟨_, List.getElem?_eq_getElem hin⟩
      have hj : (i + 1) % xs.length < xs.length := Nat.mod_lt _ (by omega)
      obtain ⟨y, hy⟩ : ∃ y, xs[(i + 1) % xs.length]? = some y := ⟨_, List.getElem?_eq_getElem hj⟩
      walk_at "rd"
      refine rd_ixL (v := .str x) (.inl (.inl hqn2)) (at_j i (by omega) (by rw [List.getElem?_map, hx]; rfl)) ?_
      walk_at "rd"
      refine rd_lenL (.inl (.inl hqn2)) ?_
      rw [List.length_map]
      refine rd_I (by omega) ?_
      have e1 : (0 + (i : Int) + 1) % (xs.length : Int) = (((i + 1) % xs.length : Nat) : Int) := by
        rw [Int.natCast_emod, Int.natCast_add, Int.zero_add]
        rfl
      refine rd_ixL (v := .str y) (.inl (.inl hqn2)) (at_j ((i + 1) % xs.length) e1 (by rw [List.getElem?_map, hy]; rfl)) ?_
      walk_at "rd"
      refine nw_in fun q5 H5 n5 s5 h5 => ?_
      have n5s : s ≠ q5 := st2.ne n5
      walk_at "rd"
      refine ⟨s, 2, rfl, st2.same s5, by decide, by decide, fun t H6 b6 st6 t0 t1 => ?_⟩
      have b26 : Sb s H3 H6 := Sb.trans (Sb.of s5) b6
      walk_at "rd"
      refine rd_ap (b26 _ _ (Ne.symm nsq) hq2) ?_
      walk_at "rd"
      obtain ⟨u, v, hu, hv, huv⟩ : ∃ u v : Str, atI [V.str x, V.str y] t = some (.str u) ∧ atI [V.str x, V.str y] (1 - t) = some (.str v) ∧ ((u = x ∧ v = y) ∨ (u = y ∧ v = x)) := by
        have : t = 0 ∨ t = 1 := by omega
        rcases this with rfl | rfl
        · exact ⟨x, y, rfl, rfl, .inl ⟨rfl, rfl⟩⟩
        · exact ⟨y, x, rfl, rfl, .inr ⟨rfl, rfl⟩⟩
      have h56 := b6 _ _ (Ne.symm n5s) h5
      refine rd_ixL (.inl (.inl h56)) hu ?_
      walk_at "rd"
      refine ⟨s, rfl, st6, fun z H7 b7 st7 hz => ?_⟩
      walk_at "rd"
      refine rd_ixL (.inl (.inl (b7 _ _ (Ne.symm n5s) h56))) hv ?_
      walk_at "rd"
      refine nw_in fun q8 H8 n8 s8 h8 => ?_
      walk_at "rd"
      have b28 : Sb s H3 H8 := Sb.trans b26 (Sb.trans b7 (Sb.of s8))
      have hq8 := b28 _ _ (Ne.symm nsq) hq2
      have hcl : cv.length = i := by rw [dv.length, List.length_map, hlen]
      refine apd hq8 (by omega) ?_
      walk_at "rd"
      have kt : KeepT H8 (upd H8 q (.lst (cv ++ [.ref q8]))) := KeepT.up hq8 (fun _ z => by cases z)
      have mx : x ∈ xs := List.mem_of_getElem? hx
      have my : y ∈ xs := List.mem_of_getElem? hy
      have xin : x ∈ [u, v] := by rcases huv with ⟨a, b⟩ | ⟨a, b⟩ <;> simp [a, b]
      have yin : y ∈ [u, v] := by rcases huv with ⟨a, b⟩ | ⟨a, b⟩ <;> simp [a, b]
      refine ⟨Sb.upn (Sb.trans b2 b28) nq, (st7.same s8).upn nsq, by rw [upd_ne nqq]; exact b28 _ _ (Ne.symm nsn) hqn2, cv ++ [.ref q8], cs ++ [(u, z, v)], _, _, _, rfl, upd_same, ?_, ?_, by rw [List.length_append, hlen]; rfl, ?_⟩
      · rw [List.map_append]
        exact ((dv.mono (st2.keep b28)).mono kt).append (.cons (.tup (kt _ _ h8) (.cons (.str _) (.cons (.str _) (.cons (.str _) .nil)))) .nil)
      · refine hch.add ?_ ?_ hz ?_
        · rcases huv with ⟨a, b⟩ | ⟨a, b⟩
          · show u ∈ xs; rw [a]; exact mx
          · show u ∈ xs; rw [a]; exact my
        · rcases huv with ⟨a, b⟩ | ⟨a, b⟩
          · show v ∈ xs; rw [b]; exact my
          · show v ∈ xs; rw [b]; exact mx
        · by_cases e0 : i = 0
          · exact .inl (by omega)
          · have hxe := hcov i x hx (Nat.le_refl _) (by omega)
            rcases huv with ⟨a, b⟩ | ⟨a, b⟩
            · exact .inr (.inl (by show u ∈ _; rw [a]; exact hxe))
            · exact .inr (.inr (by show v ∈ _; rw [b]; exact hxe))
      · intro j w hw hj1 _
        rw [ends_snoc]
        by_cases e0 : j ≤ i ∧ 1 ≤ i
        · exact List.mem_append_left _ (hcov j w hw e0.1 e0.2)
        · refine List.mem_append_right _ ?_
          by_cases e2 : j = i
          · rw [e2, hx] at hw
            cases hw
            exact xin
          · have e3 : j = i + 1 := by omega
            have hjl : j < xs.length := (List.getElem?_eq_some_iff.mp hw).1
            rw [e3] at hw hjl
            rw [Nat.mod_eq_of_lt hjl, hw] at hy
            cases hy
            exact yin
    rintro σ H4 ⟨b4, st4, hqn4, cv, cs, u1, u2, u3, rfl, hq4, dv, hch, hlen, hcov⟩
    have hcl : cv.length = m := by rw [dv.length, List.length_map, hlen]
    have hall : ∀ x ∈ xs, x ∈ ends cs := fun x hx => by
      obtain ⟨j, hj, e⟩ := List.mem_iff_getElem.mp hx
      exact hcov j x (by rw [List.getElem?_eq_getElem hj, e]) (by omega) m1
    with_reducible show tSeq _ _ _ _ _
    refine rd_cut (fun σ' H' => Sb s H H' ∧ StOk H' s ∧ ∃ (cv : List V) (cs : List Trip), σ' = [some (.ref s), some (.ref qn), some (.ref q), u1, u2, u3] ∧ H' q = some (.lst cv) ∧ DtAll H' cv (cs.map encC) ∧ Chain xs cs ∧ (∀ x ∈ xs, x ∈ ends cs) ∧ 1 ≤ cs.length ∧ cs.length ≤ 3) ?_ ?_
    · rintro σ' H' ⟨b5, st5, cv, cs, rfl, hq5, dv5, hch5, ha5, l1, l3⟩
      walk_at "rd"
      exact k q H' cv cs nq b5 st5 hq5 dv5 hch5 ha5 l1 l3
    intro N hN
    walk_at "rd"
    refine rd_lenL (.inl (.inl hq4)) ?_
    walk_at "rd"
    refine rd_ite (fun h3 => ?_) (fun h3 => ?_)
    · have h3 := of_decide_eq_true h3
      walk_at "rd"
      refine ⟨s, 2, rfl, st4, by decide, by decide, fun t H5 b5 st5 t0 t1 => ?_⟩
      walk_at "rd"
      refine rd_eqS rfl ?_
      walk_at "rd"
      have hq5 := b5 _ _ (Ne.symm nsq) hq4
      have hqn5 := b5 _ _ (Ne.symm nsn) hqn4
      refine rd_ite (fun h => ?_) (fun h => ?_)
      · walk_at "rd"
        refine rd_ap hq5 ?_
        walk_at "rd"
        obtain ⟨x0, hx0⟩ : ∃ x, xs[0]? = some x := ⟨_, List.getElem?_eq_getElem hl1⟩
        refine rd_ixL (v := .str x0) (.inl (.inl hqn5)) (at_j 0 rfl (by rw [List.getElem?_map, hx0]; rfl)) ?_
        walk_at "rd"
        refine ⟨s, rfl, st5, fun z H6 b6 st6 hz => ?_⟩
        walk_at "rd"
        obtain ⟨xl, hxl, exl⟩ := atI_neg1 hne
        refine ⟨1, rfl, ?_⟩
        refine rd_ixL (v := .str xl) (.inl (.inl (b6 _ _ (Ne.symm nsn) hqn5))) exl ?_
        walk_at "rd"
        refine nw_in fun q8 H8 n8 s8 h8 => ?_
        walk_at "rd"
        have b48 : Sb s H4 H8 := Sb.trans b5 (Sb.trans b6 (Sb.of s8))
        have hq8 := b48 _ _ (Ne.symm nsq) hq4
        refine apd hq8 (by omega) ?_
        walk_at "rd"
        have kt : KeepT H8 (upd H8 q (.lst (cv ++ [.ref q8]))) := KeepT.up hq8 (fun _ z => by cases z)
        have m0 : x0 ∈ xs := List.mem_of_getElem? hx0
        refine hN _ _ ⟨Sb.upn (Sb.trans b4 b48) nq, (st6.same s8).upn nsq, cv ++ [.ref q8], cs ++ [(x0, z, xl)], rfl, upd_same, ?_, hch.add m0 hxl hz (.inr (.inl (hall x0 m0))), fun x hx => by rw [ends_snoc]; exact List.mem_append_left _ (hall x hx), by rw [List.length_append]; omega, by rw [List.length_append, List.length_singleton]; omega⟩
        rw [List.map_append]
        exact ((dv.mono (st4.keep b48)).mono kt).append (.cons (.tup (kt _ _ h8) (.cons (.str _) (.cons (.str _) (.cons (.str _) .nil)))) .nil)
      · walk_at "rd"
        exact hN _ _ ⟨Sb.trans b4 b5, st5, cv, cs, rfl, hq5, dv.mono (st4.keep b5), hch, hall, by omega, by omega⟩
    · walk_at "rd"
      exact hN _ _ ⟨b4, st4, cv, cs, rfl, hq4, dv, hch, hall, by omega, by omega⟩
end

section
variable {P : Program} {w : World} {K : PySem.W.Frag} {mg : Str → Option Value} {base : Heap}
/-! ### rows, piled up -/
def pile (t : Str) (l : List Str) : Str := l.foldl (fun a z => a ++ " " ++ z) t
theorem pile_app (a t : Str) (l : List Str) : pile (a ++ t) l = a ++ pile t l := by
  induction l generalizing t with
  | nil => rfl
  | cons y r ih =>
    show pile (a ++ t ++ " " ++ y) r = a ++ pile (t ++ " " ++ y) r
    rw [← ih, Str.append_assoc, Str.append_assoc, Str.append_assoc]
theorem join_pile : ∀ (r : List Str) (x : Str), Str.join " " (x :: r) = pile x r
  | [], x => rfl
  | y :: r, x => by
    show x ++ " " ++ Str.join " " (y :: r) = pile (x ++ " " ++ y) r
    rw [join_pile r y, pile_app]
theorem pile_cat (t : Str) (l m : List Str) : pile t (l ++ m) = pile (pile t l) m := List.foldl_append
theorem pile_len {l : List Str} (h : ∀ z ∈ l, z.length ≤ 100) : ∀ t : Str, (pile t l).length ≤ t.length + l.length * 101 := by
  induction l with
  | nil => intro t; exact Nat.le_refl _
  | cons y r ih =>
    intro t
    have h1 := ih (fun z hz => h z (List.mem_cons_of_mem _ hz)) (t ++ " " ++ y)
    have h2 := h y List.mem_cons_self
    rw [Str.length_append, Str.length_append, show (" " : Str).length = 1 from rfl] at h1
    show (pile (t ++ " " ++ y) r).length ≤ _
    rw [List.length_cons]
    omega
theorem row_eq (kind : Str) (p : Pat) : Str.join " " (partsOf kind p) = pile (pile (kind ++ " " ++ p.name) (p.vars.map varPart)) (p.conds.flatMap condPart) := by
  unfold partsOf
  show Str.join " " (kind :: (p.name :: (p.vars.map varPart ++ p.conds.flatMap condPart))) = _
  rw [join_pile]
  show pile (kind ++ " " ++ p.name) (p.vars.map varPart ++ p.conds.flatMap condPart) = _
  rw [pile_cat]

def sp_law_row (K : PySem.W.Frag) : Sp := fun vs H Q E => ∃ (kind : Str) (p : Pat) (va ca : Addr) (vv cv : List V), vs = [.str kind, .str p.name, .ref va, .ref ca] ∧ kind.length ≤ 100 ∧ p.tshort ∧ H va = some (.lst vv) ∧ DtAll H vv (p.vars.map encV) ∧ H ca = some (.lst cv) ∧ DtAll H cv (p.conds.map encC) ∧
  ∀ H', Same H H' → Q (.str (Str.join " " (partsOf kind p))) H'
theorem ok_law_row (T : Txt K mg) : OkD P w K mg base 1 (He.ga K "_law_row") ["_law_kind", "_law_name", "_law_variables_here", "_law_conditions_here"] (sp_law_row K) := by
  refine OkD.of T.d_law_row sc_law_row (fun _ _ _ _ _ _ us hl => match us, hl with | [_, _, _, _], _ => rfl) (fun vs H Q E h => ?_) (fun cdv A outer s H vs Q E hr h => ?_)
  · obtain ⟨kind, p, va, ca, vv, cv, rfl, hk, hs, hva, dv, hca, dc, k⟩ := h
    rfl
  · obtain ⟨kind, p, va, ca, vv, cv, rfl, hk, hs, hva, dv, hca, dc, k⟩ := h
    refine ⟨_, (pss_cons (ps_set (i := 4) sc_law_row.nd rfl (by first | exact Or.inl rfl | exact Or.inr rfl) (pe_op (kAdd (K := K) rfl) (pe_op (kAdd (K := K) rfl) (pv 0) pe_str) (pv 1))) (pss_cons (ps_for (passes_of rfl) rfl (kSeq (K := K) rfl (pv 2)) (kGt (K := K) (n := 2) rfl rfl (pgs_cons (pg_name (i := 5) sc_law_row.nd rfl (by first | exact Or.inl rfl | exact Or.inr rfl)) (pgs_cons (pg_name (i := 6) sc_law_row.nd rfl (by first | exact Or.inl rfl | exact Or.inr rfl)) pgs_nil))) (pss_cons (ps_set (i := 4) sc_law_row.nd rfl (by first | exact Or.inl rfl | exact Or.inr rfl) (pe_op (kAdd (K := K) rfl) (pe_op (kAdd (K := K) rfl) (pv 4) pe_str) (pv 5))) (pss_one (ps_if (pt_cmpR op_notN (pv 6) pe_non (nomark _)) (pss_one (ps_set (i := 4) sc_law_row.nd rfl (by first | exact Or.inl rfl | exact Or.inr rfl) (pe_op (kAdd (K := K) rfl) (pe_op (kAdd (K := K) rfl) (pv 4) pe_str) (pv 6)))) pss_nil)))) (pss_cons (ps_for (passes_of rfl) rfl (kSeq (K := K) rfl (pv 3)) (kGt (K := K) (n := 3) rfl rfl (pgs_cons (pg_name (i := 7) sc_law_row.nd rfl (by first | exact Or.inl rfl | exact Or.inr rfl)) (pgs_cons (pg_name (i := 8) sc_law_row.nd rfl (by first | exact Or.inl rfl | exact Or.inr rfl)) (pgs_cons (pg_name (i := 9) sc_law_row.nd rfl (by first | exact Or.inl rfl | exact Or.inr rfl)) pgs_nil)))) (pss_one (ps_set (i := 4) sc_law_row.nd rfl (by first | exact Or.inl rfl | exact Or.inr rfl) (pe_op (kAdd (K := K) rfl) (pe_op (kAdd (K := K) rfl) (pe_op (kAdd (K := K) rfl) (pe_op (kAdd (K := K) rfl) (pe_op (kAdd (K := K) rfl) (pe_op (kAdd (K := K) rfl) (pv 4) pe_str) (pv 7)) pe_str) (pv 8)) pe_str) (pv 9))))) (pss_one (ps_ret (pv 4)))))), ?_⟩
    have hn1 := hs.1
    have hv4 := hs.2.2.2.1
    have hc4 := hs.2.2.2.2
    have lsp : (" " : Str).length = 1 := rfl
    refine rd_start (σ' := [some _, some _, some _, some _, none, none, none, none, none, none]) rfl ?_
    walk_at "rd"
    refine rd_addS (le_size (by omega)) ?_
    walk_at "rd"
    refine rd_addS (le_size (by rw [Str.length_append]; omega)) ?_
    walk_at "rd"
    have ht0 : (kind ++ " " ++ p.name).length ≤ 201 := by rw [Str.length_append, Str.length_append]; omega
    refine for_seqB (K := K) (H0 := H) (.inl (.inl (.inl hva))) (fun i σ H' => Same H H' ∧ ∃ u1 u2, σ = [some (.str kind), some (.str p.name), some (.ref va), some (.ref ca), some (.str (pile (kind ++ " " ++ p.name) ((p.vars.take i).map varPart))), u1, u2, none, none, none]) (Same.refl _) ⟨Same.refl _, none, none, rfl⟩ (fun i σ H' _ h => h.1) ?_ ?_
    · rintro i y σ H1 hi ⟨s1, u1, u2, rfl⟩
      obtain ⟨c, hc, hd⟩ := DtAll.get_map (dv.mono (.of s1)) hi
      obtain ⟨t, rfl, ht⟩ := encV_inv hd
      have hcm : c ∈ p.vars := List.mem_of_getElem? hc
      have hvp := hs.2.1 c hcm
      have hpl := pile_len (l := (p.vars.take i).map varPart) (fun z hz => by
        obtain ⟨v, hv, rfl⟩ := List.mem_map.mp hz
        exact hs.2.1 v (List.mem_of_mem_take hv)) (kind ++ " " ++ p.name)
      have hll : ((p.vars.take i).map varPart).length ≤ 100 := by rw [List.length_map, List.length_take]; omega
      have hpb : (pile (kind ++ " " ++ p.name) ((p.vars.take i).map varPart)).length ≤ 20000 := by
        have := Nat.mul_le_mul_right 101 hll
        omega
      have hnx : pile (kind ++ " " ++ p.name) ((p.vars.take (i + 1)).map varPart) = pile (kind ++ " " ++ p.name) ((p.vars.take i).map varPart) ++ " " ++ varPart c := by
        rw [take_succ_of hc, List.map_append, pile_cat]
        rfl
      walk_at "rd"
      refine rd_gtup (.inl (.inl ht)) rfl ?_
      walk_at "rd"
      refine rd_addS (le_size (by omega)) ?_
      walk_at "rd"
      obtain ⟨n, so⟩ := c
      have ln : n.length ≤ 100 := by
        cases so with
        | none => exact hvp
        | some z =>
          have hvp' : (n ++ ":" ++ z).length ≤ 100 := hvp
          rw [Str.length_append, Str.length_append] at hvp'
          omega
      have ln' : ((n, so) : Str × Option Str).fst.length ≤ 100 := ln
      refine rd_addS (le_size (by rw [Str.length_append]; omega)) ?_
      walk_at "rd"
      cases so with
      | none =>
        rw [show (!decide (oV ((n, none) : Str × Option Str).snd = V.non)) = false from rfl]
        walk_at "rd"
        refine ⟨s1, some (.str n), some .non, ?_⟩
        rw [hnx]
        rfl
      | some z =>
        rw [show (!decide (oV ((n, some z) : Str × Option Str).snd = V.non)) = true from rfl]
        walk_at "rd"
        have lz : z.length ≤ 100 := by
          have hvp' : (n ++ ":" ++ z).length ≤ 100 := hvp
          rw [Str.length_append, Str.length_append] at hvp'
          omega
        have lcol : (":" : Str).length = 1 := rfl
        have e1 : (pile (kind ++ " " ++ p.name) ((p.vars.take i).map varPart) ++ " " ++ ((n, some z) : Str × Option Str).fst).length ≤ 20200 := by
          rw [Str.length_append, Str.length_append]
          omega
        refine rd_addS (le_size (by omega)) ?_
        walk_at "rd"
        refine rd_addS (le_size (by rw [Str.length_append]; omega)) ?_
        walk_at "rd"
        refine ⟨s1, some (.str n), some (.str z), ?_⟩
        rw [hnx]
        show _ = [_, _, _, _, some (V.str (pile (kind ++ " " ++ p.name) ((p.vars.take i).map varPart) ++ " " ++ (n ++ ":" ++ z))), _, _, _, _, _]
        rw [show pile (kind ++ " " ++ p.name) ((p.vars.take i).map varPart) ++ " " ++ (n ++ ":" ++ z) = pile (kind ++ " " ++ p.name) ((p.vars.take i).map varPart) ++ " " ++ n ++ ":" ++ z from by rw [Str.append_assoc, Str.append_assoc, Str.append_assoc, Str.append_assoc, Str.append_assoc, Str.append_assoc]]
        rfl
    rintro σ H1 ⟨s1, u1, u2, rfl⟩
    rw [dv.length, List.length_map, List.take_length]
    generalize hT : pile (kind ++ " " ++ p.name) (p.vars.map varPart) = t1
    have hT1 : t1.length ≤ 20000 := by
      have hpl := pile_len (l := p.vars.map varPart) (fun z hz => by
        obtain ⟨v, hv, rfl⟩ := List.mem_map.mp hz
        exact hs.2.1 v hv) (kind ++ " " ++ p.name)
      rw [hT, List.length_map] at hpl
      omega
    walk_at "rd"
    refine for_seqB (K := K) (H0 := H) (.inl (.inl (.inl hca))) (fun i σ H' => Same H H' ∧ ∃ u1 u2 u3 u4 u5, σ = [some (.str kind), some (.str p.name), some (.ref va), some (.ref ca), some (.str (pile t1 ((p.conds.take i).flatMap condPart))), u1, u2, u3, u4, u5]) s1 ⟨s1, _, _, _, _, _, rfl⟩ (fun i σ H' _ h => h.1) ?_ ?_
    · rintro i y σ H2 hi ⟨s2, u1, u2, u3, u4, u5, rfl⟩
      obtain ⟨c, hc, hd⟩ := DtAll.get_map (dc.mono (.of s2)) hi
      obtain ⟨t, rfl, ht⟩ := encC_inv hd
      have hcm : c ∈ p.conds := List.mem_of_getElem? hc
      have hcp := hs.2.2.1 c hcm
      have lx : c.1.length ≤ 100 := hcp _ (by simp [condPart])
      have lw : c.2.1.length ≤ 100 := hcp _ (by simp [condPart])
      have ly : c.2.2.length ≤ 100 := hcp _ (by simp [condPart])
      have hpl := pile_len (l := (p.conds.take i).flatMap condPart) (fun z hz => by
        obtain ⟨v, hv, hz⟩ := List.mem_flatMap.mp hz
        exact hs.2.2.1 v (List.mem_of_mem_take hv) z hz) t1
      have hll : ((p.conds.take i).flatMap condPart).length ≤ 400 := by rw [flat_len, List.length_take]; omega
      have hpb : (pile t1 ((p.conds.take i).flatMap condPart)).length ≤ 70000 := by
        have := Nat.mul_le_mul_right 101 hll
        omega
      have lbar : (" | " : Str).length = 3 := rfl
      walk_at "rd"
      refine rd_gtup (.inl (.inl ht)) rfl ?_
      walk_at "rd"
      refine rd_addS (le_size (by omega)) ?_
      walk_at "rd"
      refine rd_addS (le_size (by simp only [Str.length_append]; omega)) ?_
      walk_at "rd"
      refine rd_addS (le_size (by simp only [Str.length_append]; omega)) ?_
      walk_at "rd"
      refine rd_addS (le_size (by simp only [Str.length_append]; omega)) ?_
      walk_at "rd"
      refine rd_addS (le_size (by simp only [Str.length_append]; omega)) ?_
      walk_at "rd"
      refine rd_addS (le_size (by simp only [Str.length_append]; omega)) ?_
      walk_at "rd"
      refine ⟨s2, u1, u2, some (.str c.1), some (.str c.2.1), some (.str c.2.2), ?_⟩
      rw [take_succ_of hc, List.flatMap_append, pile_cat]
      generalize pile t1 ((p.conds.take i).flatMap condPart) = w
      have e : pile w ([c].flatMap condPart) = w ++ " | " ++ c.1 ++ " " ++ c.2.1 ++ " " ++ c.2.2 := by
        show w ++ " " ++ "|" ++ " " ++ c.1 ++ " " ++ c.2.1 ++ " " ++ c.2.2 = _
        rw [show (" | " : Str) = " " ++ ("|" ++ " ") from by decide +kernel]
        simp only [Str.append_assoc]
      rw [e]
    rintro σ H2 ⟨s2, u1, u2, u3, u4, u5, rfl⟩
    rw [dc.length, List.length_map, List.take_length]
    walk_at "rd"
    have k' := k H2 s2
    rw [row_eq, hT] at k'
    exact k'
end

section
variable {P : Program} {w : World} {K : PySem.W.Frag} {mg : Str → Option Value} {base : Heap}
theorem row_len {k : Str} {p : Pat} (hk : k.length ≤ 100) (hs : p.tshort) : (Str.join " " (partsOf k p)).length ≤ 60000 := by
  have h1 := StrLaws.join_length_le " " (partsOf k p)
  have h2 := sum_le (parts_short hk hs)
  have h3 := parts_len (k := k) hs
  rw [show (" " : Str).length = 1 from rfl] at h1
  have h4 := Nat.mul_le_mul_right 100 h3
  omega
theorem MakAt.same {K : PySem.W.Frag} {H H' : Hp} {b : Addr} {m : Mak} (s : Same H H') (h : MakAt K H b m) : MakAt K H' b m := by
  obtain ⟨dx, fs, h1, h2⟩ := h
  obtain ⟨a1, d1, d2⟩ := h2.dn
  obtain ⟨a2, u1, u2⟩ := h2.up
  exact ⟨dx, fs, s _ _ h1, h2.kr, h2.md, ⟨a1, d1, s _ _ d2⟩, ⟨a2, u1, s _ _ u2⟩⟩
theorem DtAll.rev {H : Hp} : ∀ {vs : List V} {ds : List PyData}, DtAll H vs ds → DtAll H vs.reverse ds.reverse
  | _, _, .nil => .nil
  | _, _, .cons h t => by
    rw [List.reverse_cons, List.reverse_cons]
    exact (DtAll.rev t).append (.cons h .nil)
/-- variables of just these names, in any order -/
structure VP (vs : List (Str × Option Str)) (xs : List Str) : Prop where
  nd : (vs.map Prod.fst).Nodup
  mem : ∀ x, x ∈ vs.map Prod.fst ↔ x ∈ xs
  so : ∀ v ∈ vs, ∀ s, v.2 = some s → isName s = true
  len : vs.length = xs.length
theorem VP.of {vs : List (Str × Option Str)} {xs : List Str} (h : VarsOk vs xs) (g : Good xs) : VP vs xs :=
  ⟨by rw [h.1]; exact g.1, fun x => by rw [h.1], h.2, by rw [← h.1, List.length_map]⟩
theorem VP.rev {vs : List (Str × Option Str)} {xs : List Str} (h : VP vs xs) : VP vs.reverse xs :=
  ⟨by rw [List.map_reverse]; exact (List.reverse_perm _).nodup_iff.mpr h.nd, fun x => by rw [List.map_reverse, List.mem_reverse]; exact h.mem x, fun v hv => h.so v (List.mem_reverse.mp hv), by rw [List.length_reverse]; exact h.len⟩
theorem firstTwice_nd : ∀ (l seen : List Str), (∀ x ∈ l, x ∉ seen) → l.Nodup → firstTwice seen l = none
  | [], _, _, _ => rfl
  | x :: r, seen, h, nd => by
    show (if x ∈ seen then some x else firstTwice (seen ++ [x]) r) = none
    rw [if_neg (h x List.mem_cons_self)]
    rw [List.nodup_cons] at nd
    refine firstTwice_nd r _ (fun y hy hm => ?_) nd.2
    rcases List.mem_append.mp hm with h' | h'
    · exact h y (List.mem_cons_of_mem _ hy) h'
    · rw [List.mem_singleton.mp h'] at hy
      exact nd.1 hy
theorem firstBad_all {l : List Str} (h : ∀ x ∈ l, isName x = true) : firstBad l = none := by
  unfold firstBad
  rw [List.find?_eq_none]
  intro x hx
  rw [h x hx]
  decide
theorem pat_good {nm : Str} {vs : List (Str × Option Str)} {cs : List Trip} {ru : Option (Trip × Str)} {xs : List Str} (hnm : isName nm = true) (hv : VP vs xs) (hxs : ∀ x ∈ xs, isName x = true) (h1 : xs ≠ []) (h4 : xs.length ≤ 4) (hch : Chain xs cs) (hcov : ∀ x ∈ xs, x ∈ ends cs) (l1 : 1 ≤ cs.length) (l3 : cs.length ≤ 3)
    (hru : ∀ z, ru = some z → z.1.1 ∈ xs ∧ isName z.1.2.1 = true ∧ z.1.2.2 ∈ xs ∧ z.2 ∈ xs) : patFault ⟨nm, vs, cs, ru⟩ = none ∧ (⟨nm, vs, cs, ru⟩ : Pat).short ∧ (⟨nm, vs, cs, ru⟩ : Pat).tshort := by
  have hx1 : 1 ≤ xs.length := by
    cases xs with
    | nil => exact absurd rfl h1
    | cons _ _ => simp
  have hvl := hv.len
  have hvn : ∀ v ∈ vs, isName v.1 = true := fun v hm => hxs _ ((hv.mem _).mp (List.mem_map.mpr ⟨v, hm, rfl⟩))
  have htri : ∀ c ∈ (⟨nm, vs, cs, ru⟩ : Pat).triples, c.1 ∈ xs ∧ isName c.2.1 = true ∧ c.2.2 ∈ xs := by
    intro c hc
    rcases List.mem_append.mp hc with h | h
    · exact ⟨hch.inn _ (List.mem_flatMap.mpr ⟨c, h, by simp⟩), hch.wd c h, hch.inn _ (List.mem_flatMap.mpr ⟨c, h, by simp⟩)⟩
    · cases ru with
      | none => cases h
      | some z =>
        have e : c = z.1 := by simpa using h
        obtain ⟨a, b, d, _⟩ := hru z rfl
        rw [e]
        exact ⟨a, b, d⟩
  have htx : ∀ x ∈ (⟨nm, vs, cs, ru⟩ : Pat).texts (⟨nm, vs, cs, ru⟩ : Pat).triples, isName x = true := by
    intro x hx
    unfold Pat.texts at hx
    rw [List.mem_append, List.mem_append] at hx
    rcases hx with h | h | h
    · rw [List.mem_singleton.mp h]; exact hnm
    · obtain ⟨v, hm, hx⟩ := List.mem_flatMap.mp h
      rcases List.mem_cons.mp hx with rfl | hx
      · exact hvn v hm
      · exact hv.so v hm x (by simpa using hx)
    · obtain ⟨c, hc, rfl⟩ := List.mem_map.mp h
      exact (htri c hc).2.1
  refine ⟨?_, ⟨fun x hx => by have := isName_len (htx x hx); omega, by show vs.length ≤ 1000; omega, by show cs.length ≤ 1000; omega, trivial⟩, ?_⟩
  · have c1 : cntFault "variables" vs.length 4 = none := if_pos ⟨by omega, by omega⟩
    have c2 : cntFault "conditions" cs.length 3 = none := if_pos ⟨l1, l3⟩
    have f1 := firstBad_all htx
    have f2 : firstTwice [] (⟨nm, vs, cs, ru⟩ : Pat).names = none := firstTwice_nd _ _ (fun _ _ h => by cases h) hv.nd
    have f3 : firstOut ⟨nm, vs, cs, ru⟩ = none := by
      unfold firstOut
      rw [List.find?_eq_none]
      intro x hx
      have hm : x ∈ xs := by
        rcases List.mem_append.mp hx with h | h
        · obtain ⟨c, hc, hx⟩ := List.mem_flatMap.mp h
          obtain ⟨a, _, d⟩ := htri c hc
          simp at hx
          rcases hx with rfl | rfl
          · exact a
          · exact d
        · cases ru with
          | none => cases h
          | some z =>
            have e : x = z.2 := by simpa [Pat.hands] using h
            rw [e]
            exact (hru z rfl).2.2.2
      have : x ∈ (⟨nm, vs, cs, ru⟩ : Pat).names := (hv.mem x).mpr hm
      rw [decide_eq_true this]
      decide
    have f4 : firstLoose ⟨nm, vs, cs, ru⟩ = none := by
      unfold firstLoose
      rw [List.find?_eq_none]
      intro x hx
      have : x ∈ ends cs := hcov x ((hv.mem x).mp hx)
      show ¬ (!decide (x ∈ ends cs)) = true
      rw [decide_eq_true this]
      decide
    unfold patFault outFault togFault
    rw [f1, f2, f3, f4]
    show (cntFault "variables" vs.length 4).or ((cntFault "conditions" cs.length 3).or ((none : Option Fault).or (((none : Option Fault).or none).or ((none : Option Fault).or ((firstApart cs).map .apart))))) = none
    rw [c1, c2, hch.apart]
    rfl
  · refine ⟨by have := isName_len hnm; show nm.length ≤ 100; omega, fun v hm => ?_, fun c hc z hz => ?_, by show vs.length ≤ 100; omega, by show cs.length ≤ 100; omega⟩
    · have l1 := isName_len (hvn v hm)
      obtain ⟨n, so⟩ := v
      cases so with
      | none => show n.length ≤ 100; have : n.length ≤ 12 := l1; omega
      | some z =>
        have l2 := isName_len (hv.so _ hm z rfl)
        show (n ++ ":" ++ z).length ≤ 100
        rw [Str.length_append, Str.length_append, show (":" : Str).length = 1 from rfl]
        have : n.length ≤ 12 := l1
        omega
    · have hin : c.1 ∈ xs ∧ c.2.2 ∈ xs := ⟨hch.inn _ (List.mem_flatMap.mpr ⟨c, hc, by simp⟩), hch.inn _ (List.mem_flatMap.mpr ⟨c, hc, by simp⟩)⟩
      have l1 := isName_len (hxs _ hin.1)
      have l2 := isName_len (hch.wd c hc)
      have l3 := isName_len (hxs _ hin.2)
      simp [condPart] at hz
      rcases hz with rfl | rfl | rfl | rfl
      · decide
      · omega
      · omega
      · omega
theorem own_same {H : Hp} {x dx : Addr} {o o' : HO} (h1 : H x = none) (h2 : H dx = none) (n : dx ≠ x) : Same H (upd (upd H dx o) x o') := Same.trans (Same.nw h2) (Same.nw (by rw [upd_ne (Ne.symm n)]; exact h1))
/-- Bar(..), Rule(..) from two lists, nothing amiss -/
theorem mk_bar {K : PySem.W.Frag} {H : Hp} {E : XK} {Q : Addr → Hp → Prop} {va ca : Addr} {vv cv : List V} (p : Pat) (h0 : p.ru = none) (hv : H va = some (.lst vv)) (dv : DtAll H vv (p.vars.map encV)) (hc : H ca = some (.lst cv)) (dc : DtAll H cv (p.conds.map encC)) (hs : p.short) (hf : patFault p = none)
    (k1 : ∀ b H', Same H H' → BarAt K H' b p → Q b H') :
    ∀ x dx, H x = none → H dx = none → dx ≠ x → sp_Bar_init K (.ref x :: ([.str p.name, .ref va, .ref ca] ++ [])) (upd (upd H dx (.own x)) x (.ins (cBar K) dx [])) (fun v H2 => v = .non ∧ Q x H2) E := by
  intro x dx hx hd n
  have s := own_same (o := .own x) (o' := .ins (cBar K) dx []) hx hd n
  exact ⟨x, va, ca, dx, vv, cv, p, [], rfl, by rw [patC_bar h0]; exact upd_same, ⟨by decide, rfl, rfl, fun g y e => by rw [h0] at e; cases e⟩, .inl (.inl (.inl (s _ _ hv))), dv.mono (.of s), .inl (.inl (.inl (s _ _ hc))), dc.mono (.of s), ne_of_none hv hx, ne_of_none hc hx, hs,
    fun e H' sb hB => ⟨rfl, k1 x H' (Sb.same hx s sb) hB⟩, fun f e => by rw [hf] at e; cases e⟩
theorem mk_rule {K : PySem.W.Frag} {H : Hp} {E : XK} {Q : Addr → Hp → Prop} {va ca ga : Addr} {vv cv : List V} (p : Pat) (g : Trip) (y : Str) (h0 : p.ru = some (g, y)) (hg : H ga = some (.tup [.str g.1, .str g.2.1, .str g.2.2])) (hv : H va = some (.lst vv)) (dv : DtAll H vv (p.vars.map encV)) (hc : H ca = some (.lst cv)) (dc : DtAll H cv (p.conds.map encC)) (hs : p.short) (hf : patFault p = none)
    (k1 : ∀ b H', Same H H' → BarAt K H' b p → Q b H') :
    ∀ x dx, H x = none → H dx = none → dx ≠ x → sp_Rule_init K (.ref x :: ([.str p.name, .ref va, .ref ca, .ref ga, .str y] ++ [])) (upd (upd H dx (.own x)) x (.ins (cRule K) dx [])) (fun v H2 => v = .non ∧ Q x H2) E := by
  intro x dx hx hd n
  have s := own_same (o := .own x) (o' := .ins (cRule K) dx []) hx hd n
  exact ⟨x, va, ca, ga, dx, vv, cv, p, g, y, rfl, upd_same, h0, .inl (.inl (s _ _ hg)), .inl (.inl (.inl (s _ _ hv))), dv.mono (.of s), .inl (.inl (.inl (s _ _ hc))), dc.mono (.of s), ne_of_none hv hx, ne_of_none hc hx, hs,
    fun e H' sb hB => ⟨rfl, k1 x H' (Sb.same hx s sb) hB⟩, fun f e => by rw [hf] at e; cases e⟩
theorem mk_mak {K : PySem.W.Frag} {H : Hp} {E : XK} {Q : Addr → Hp → Prop} {da ua : Addr} (m : Mak) (hd : H da = some (.lst (m.down.map V.str))) (hu : H ua = some (.lst (m.up.map V.str))) (hs : m.short) (hf : makFault m = none)
    (k1 : ∀ b H', Same H H' → MakAt K H' b m → Q b H') :
    ∀ x dx, H x = none → H dx = none → dx ≠ x → sp_Making_init K (.ref x :: ([.str m.maker, .str m.made, .ref da, .ref ua] ++ [])) (upd (upd H dx (.own x)) x (.ins (cMaking K) dx [])) (fun v H2 => v = .non ∧ Q x H2) E := by
  intro x dx hx hdx n
  have s := own_same (o := .own x) (o' := .ins (cMaking K) dx []) hx hdx n
  exact ⟨x, da, ua, dx, m, rfl, upd_same, s _ _ hd, s _ _ hu, hs, fun e H' sb hB => ⟨rfl, k1 x H' (Sb.same hx s sb) hB⟩, fun f e => by rw [hf] at e; cases e⟩
theorem mak_good {a b : Str} {d u : List Str} (ha : isName a = true) (hb : isName b = true) (hd : Good d) (hu : Good u) (ld : d.length ≤ 100) (lu : u.length ≤ 100) : makFault ⟨a, b, d, u⟩ = none ∧ (⟨a, b, d, u⟩ : Mak).short ∧ ∀ z ∈ a :: b :: (d ++ u), z.length ≤ 100 := by
  have hall : ∀ z ∈ a :: b :: (d ++ u), isName z = true := by
    intro z hz
    simp at hz
    rcases hz with rfl | rfl | h | h
    · exact ha
    · exact hb
    · exact hd.2 z h
    · exact hu.2 z h
  refine ⟨?_, ⟨fun x hx => by have := isName_len (hall x hx); omega, by show d.length ≤ 1000; omega, by show u.length ≤ 1000; omega⟩, fun z hz => by have := isName_len (hall z hz); omega⟩
  unfold makFault nmF twF
  rw [firstBad_all (l := [a, b]) (fun x hx => hall x (by simp at hx ⊢; rcases hx with h | h <;> simp [h])), firstBad_all hd.2, firstBad_all hu.2, firstTwice_nd _ _ (fun _ _ h => by cases h) hd.1, firstTwice_nd _ _ (fun _ _ h => by cases h) hu.1]
  rfl
theorem rule_row (p : Pat) (g : Trip) (y : Str) : ruleRow p g y = Str.join " " (partsOf "rule" p) ++ " > " ++ Str.join " " [g.1, g.2.1, g.2.2] ++ " by " ++ y := by
  unfold ruleRow partsOf
  show Str.join " " ("rule" :: (((p.name :: (p.vars.map varPart ++ p.conds.flatMap condPart)) ++ ([">"] : List Str) ++ ([g.1, g.2.1, g.2.2] : List Str)) ++ (["by", y] : List Str))) = Str.join " " ("rule" :: (p.name :: (p.vars.map varPart ++ p.conds.flatMap condPart))) ++ " > " ++ Str.join " " [g.1, g.2.1, g.2.2] ++ " by " ++ y
  rw [join_pile, join_pile, join_pile, pile_cat, pile_cat, pile_cat]
  generalize pile "rule" (p.name :: (p.vars.map varPart ++ p.conds.flatMap condPart)) = w
  show w ++ " " ++ ">" ++ " " ++ g.1 ++ " " ++ g.2.1 ++ " " ++ g.2.2 ++ " " ++ "by" ++ " " ++ y = w ++ " > " ++ (g.1 ++ " " ++ g.2.1 ++ " " ++ g.2.2) ++ " by " ++ y
  rw [show (" > " : Str) = " " ++ (">" ++ " ") from by decide +kernel, show (" by " : Str) = " " ++ ("by" ++ " ") from by decide +kernel]
  simp only [Str.append_assoc]
theorem BarAt.sb {K : PySem.W.Frag} {H H' : Hp} {b s : Addr} {p : Pat} (st : StOk H s) (e : Sb s H H') (h : BarAt K H b p) : BarAt K H' b p := by
  obtain ⟨dx, fs, h1, h2⟩ := h
  have n : b ≠ s := fun z => by
    obtain ⟨_, _, _, q, _⟩ := st
    rw [z, q] at h1
    cases h1
  exact ⟨dx, fs, e _ _ n h1, h2.mono (st.keep e)⟩
theorem cut_to (ns : List Int) (k : Nat) : cutV (ns.map V.int) none (some (k : Int)) = (ns.take k).map V.int := by
  unfold cutV
  rw [HT.sIx_none, HT.sIx_nat, List.drop_zero, Nat.sub_zero, List.map_take]
  rw [← List.take_eq_take_min]

def sp_law (K : PySem.W.Frag) : Sp := fun vs H Q E => ∃ (a : Addr) (ns : List Int), vs = [.ref a] ∧ ns.length ≤ 1000 ∧ SqL K H a (ns.map V.int) ∧ ∀ H', Q (.bl true) H'
theorem ok_law (T : Txt K mg) : ∃ fd : FuncData, (∀ (s : Shared) (u : Value), BindsTo s fd ⟨[u], []⟩ [("_law_script", u)]) ∧ ∀ base : Heap, K.In base → base.Ns mainGlobals mg → FnOk P w K mg base (L2.CX P w) 11 (He.ga K "law") fd ["_law_script"] (sp_law K) := by
  refine fn_of T.d_law (fun _ _ _ _ _ _ u => rfl) N_law sc_law (fun vs H Q E h => ?_) (fun base cdv A outer s H vs Q E hr h => ?_)
  · obtain ⟨a, ns, rfl, hl, hq, k⟩ := h
    rfl
  · have G_Making_str := ok_Making_str (P := P) (w := w) (base := base) T
    have G_Rule_str := ok_Rule_str (P := P) (w := w) (base := base) T
    have G_Making_init := ok_Making_init (P := P) (w := w) (base := base) T
    have G_law_names := ok_law_names (P := P) (w := w) (base := base) T
    have G_law_digit := ok_law_digit (P := P) (w := w) (base := base) T
    have G_Bar_str := ok_Bar_str (P := P) (w := w) (base := base) T
    have G_law_row := ok_law_row (P := P) (w := w) (base := base) T
    have G_Rule_init := ok_Rule_init (P := P) (w := w) (base := base) T
    have G_Bar_init := ok_Bar_init (P := P) (w := w) (base := base) T
    have G_law_long := ok_law_long (P := P) (w := w) (base := base) T
    have G_law_conditions := ok_law_conditions (P := P) (w := w) (base := base) T
    have G_law_variables := ok_law_variables (P := P) (w := w) (base := base) T
    have G_law_state := ok_law_state (P := P) (w := w) (base := base) T
    obtain ⟨a, ns, rfl, hl, hq, k⟩ := h
    refine ⟨_, (pss_cons (ps_for (passes_of rfl) rfl (kSeq (K := K) rfl (pe_slice (kSl (K := K) rfl) (pe_op (kAdd (K := K) rfl) (pv 0) (pe_lst (pa_cons pe_int pa_nil))) po_none (po_some pe_int))) (pg_name (i := 1) sc_law.nd rfl (by first | exact Or.inl rfl | exact Or.inr rfl)) (pss_cons (ps_set (i := 2) sc_law.nd rfl (by first | exact Or.inl rfl | exact Or.inr rfl) (pe_fn G_law_state (hr.mono (by decide)) rfl T.g_law_state (passes_call (takes_of rfl rfl rfl rfl) (fun _ _ _ _ h => h)) (pa_cons (pv 1) pa_nil))) (pss_cons (ps_set (i := 3) sc_law.nd rfl (by first | exact Or.inl rfl | exact Or.inr rfl) (pe_fn G_law_long (hr.mono (by decide)) rfl T.g_law_long (passes_call (takes_of rfl rfl rfl rfl) (fun _ _ _ _ h => h)) (pa_cons (pv 2) pa_nil))) (pss_cons (ps_set (i := 4) sc_law.nd rfl (by first | exact Or.inl rfl | exact Or.inr rfl) (pe_fn G_law_variables (hr.mono (by decide)) rfl T.g_law_variables (passes_call (takes_of rfl rfl rfl rfl) (fun _ _ _ _ h => h)) (pa_cons (pv 2) pa_nil))) (pss_cons (ps_setLc (i := 5) (own := [("_law_one", 17), ("_law_sort", 18)]) rfl sc_law.nd rfl rfl (sw_true rfl rfl rfl (by decide +kernel)) (kSeq (K := K) rfl (pv 4)) (blkOk_by (N := N_law) (sc := defScope s_law) (by decide +kernel)) (fun _ _ _ _ _ => (kGt (K := K) (n := 2) rfl rfl (pgs_cons (pg_name (i := 17) sc_law.nd rfl (by first | exact Or.inl rfl | exact Or.inr rfl)) (pgs_cons (pg_name (i := 18) sc_law.nd rfl (by first | exact Or.inl rfl | exact Or.inr rfl)) pgs_nil)))) (fun _ _ _ _ _ => pts_nil) (fun _ _ _ _ _ => (pv 17))) (pss_cons (ps_set (i := 6) sc_law.nd rfl (by first | exact Or.inl rfl | exact Or.inr rfl) (pe_fn G_law_conditions (hr.mono (by decide)) rfl T.g_law_conditions (passes_call (takes_of rfl rfl rfl rfl) (fun _ _ _ _ h => h)) (pa_cons (pv 2) (pa_cons (pv 5) pa_nil)))) (pss_cons (ps_set (i := 7) sc_law.nd rfl (by first | exact Or.inl rfl | exact Or.inr rfl) (pe_cmpR (kEq (K := K) rfl hr.units) (pe_fn G_law_digit (hr.mono (by decide)) rfl T.g_law_digit (passes_call (takes_of rfl rfl rfl rfl) (fun _ _ _ _ h => h)) (pa_cons (pv 2) (pa_cons pe_int pa_nil))) pe_int (nomark _))) (pss_cons (ps_if (pt_val (pv 7)) (pss_one (ps_set (i := 4) sc_law.nd rfl (by first | exact Or.inl rfl | exact Or.inr rfl) (pe_revL (pv 4)))) pss_nil) (pss_cons (ps_set (i := 8) sc_law.nd rfl (by first | exact Or.inl rfl | exact Or.inr rfl) (pe_tup (pa_cons (pe_ix (kIx (K := K) rfl) (pv 5) (pe_fn G_law_digit (hr.mono (by decide)) rfl T.g_law_digit (passes_call (takes_of rfl rfl rfl rfl) (fun _ _ _ _ h => h)) (pa_cons (pv 2) (pa_cons (pe_callB (kLen (K := K) rfl) (by rfl) T.z_len (by decide +kernel) (pa_cons (pv 5) pa_nil)) pa_nil))) (fun _ _ => rfl)) (pa_cons (pe_fn G_law_long (hr.mono (by decide)) rfl T.g_law_long (passes_call (takes_of rfl rfl rfl rfl) (fun _ _ _ _ h => h)) (pa_cons (pv 2) pa_nil)) (pa_cons (pe_ix (kIx (K := K) rfl) (pv 5) (pe_fn G_law_digit (hr.mono (by decide)) rfl T.g_law_digit (passes_call (takes_of rfl rfl rfl rfl) (fun _ _ _ _ h => h)) (pa_cons (pv 2) (pa_cons (pe_callB (kLen (K := K) rfl) (by rfl) T.z_len (by decide +kernel) (pa_cons (pv 5) pa_nil)) pa_nil))) (fun _ _ => rfl)) pa_nil))))) (pss_cons (ps_set (i := 9) sc_law.nd rfl (by first | exact Or.inl rfl | exact Or.inr rfl) (pe_ix (kIx (K := K) rfl) (pv 5) (pe_fn G_law_digit (hr.mono (by decide)) rfl T.g_law_digit (passes_call (takes_of rfl rfl rfl rfl) (fun _ _ _ _ h => h)) (pa_cons (pv 2) (pa_cons (pe_callB (kLen (K := K) rfl) (by rfl) T.z_len (by decide +kernel) (pa_cons (pv 5) pa_nil)) pa_nil))) (fun _ _ => rfl))) (pss_cons (ps_set (i := 10) sc_law.nd rfl (by first | exact Or.inl rfl | exact Or.inr rfl) (pe_mk T.mk_Bar G_Bar_init (hr.mono (by decide)) rfl T.g_Bar (passes_call (takes_of rfl rfl rfl rfl) (fun _ _ _ _ h => h)) (pa_cons (pv 3) (pa_cons (pv 4) (pa_cons (pv 6) pa_nil))))) (pss_cons (ps_set (i := 11) sc_law.nd rfl (by first | exact Or.inl rfl | exact Or.inr rfl) (pe_mk T.mk_Rule G_Rule_init (hr.mono (by decide)) rfl T.g_Rule (passes_call (takes_of rfl rfl rfl rfl) (fun _ _ _ _ h => h)) (pa_cons (pv 3) (pa_cons (pv 4) (pa_cons (pv 6) (pa_cons (pv 8) (pa_cons (pv 9) pa_nil))))))) (pss_cons (ps_set (i := 12) sc_law.nd rfl (by first | exact Or.inl rfl | exact Or.inr rfl) (pe_op (kAdd (K := K) rfl) (pe_op (kAdd (K := K) rfl) (pe_op (kAdd (K := K) rfl) (pe_op (kAdd (K := K) rfl) (pe_fn G_law_row (hr.mono (by decide)) rfl T.g_law_row (passes_call (takes_of rfl rfl rfl rfl) (fun _ _ _ _ h => h)) (pa_cons pe_str (pa_cons (pv 3) (pa_cons (pv 4) (pa_cons (pv 6) pa_nil))))) pe_str) (pe_join pe_str (pe_callTy (kList (K := K) rfl) (by rfl) T.z_list (by decide +kernel) (pa_cons (pv 8) pa_nil)))) pe_str) (pv 9))) (pss_cons (ps_if (PW.pt (pw_or (pt_cmpR (kNe (K := K) rfl hr.units) (pe_callTy (call_strOwn G_Bar_str (hr.mono (by decide)) T.m_Bar_str.at_ T.m_Bar_str.fn (passes_call (takes_of rfl rfl rfl rfl) (fun _ _ _ _ h => h))) (by rfl) T.z_str (by decide +kernel) (pa_cons (pv 10) pa_nil)) (pe_fn G_law_row (hr.mono (by decide)) rfl T.g_law_row (passes_call (takes_of rfl rfl rfl rfl) (fun _ _ _ _ h => h)) (pa_cons pe_str (pa_cons (pv 3) (pa_cons (pv 4) (pa_cons (pv 6) pa_nil))))) (nomark _)) (pw_or1 (pt_cmpR (kNe (K := K) rfl hr.units) (pe_callTy (call_strOwn G_Rule_str (hr.mono (by decide)) T.m_Rule_str.at_ T.m_Rule_str.fn (passes_call (takes_of rfl rfl rfl rfl) (fun _ _ _ _ h => h))) (by rfl) T.z_str (by decide +kernel) (pa_cons (pv 11) pa_nil)) (pv 12) (nomark _))))) (pss_one (ps_ret pe_bl)) pss_nil) (pss_cons (ps_set (i := 13) sc_law.nd rfl (by first | exact Or.inl rfl | exact Or.inr rfl) (pe_fn G_law_names (hr.mono (by decide)) rfl T.g_law_names (passes_call (takes_of rfl rfl rfl rfl) (fun _ _ _ _ h => h)) (pa_cons (pv 2) (pa_cons (pe_fn G_law_digit (hr.mono (by decide)) rfl T.g_law_digit (passes_call (takes_of rfl rfl rfl rfl) (fun _ _ _ _ h => h)) (pa_cons (pv 2) (pa_cons pe_int pa_nil))) pa_nil)))) (pss_cons (ps_set (i := 14) sc_law.nd rfl (by first | exact Or.inl rfl | exact Or.inr rfl) (pe_fn G_law_names (hr.mono (by decide)) rfl T.g_law_names (passes_call (takes_of rfl rfl rfl rfl) (fun _ _ _ _ h => h)) (pa_cons (pv 2) (pa_cons (pe_fn G_law_digit (hr.mono (by decide)) rfl T.g_law_digit (passes_call (takes_of rfl rfl rfl rfl) (fun _ _ _ _ h => h)) (pa_cons (pv 2) (pa_cons pe_int pa_nil))) pa_nil)))) (pss_cons (ps_set (i := 15) sc_law.nd rfl (by first | exact Or.inl rfl | exact Or.inr rfl) (pe_mk T.mk_Making G_Making_init (hr.mono (by decide)) rfl T.g_Making (passes_call (takes_of rfl rfl rfl rfl) (fun _ _ _ _ h => h)) (pa_cons (pe_ix (kIx (K := K) rfl) (pv 5) pe_int (fun _ _ => rfl)) (pa_cons (pv 3) (pa_cons (pv 13) (pa_cons (pv 14) pa_nil)))))) (pss_cons (ps_set (i := 16) sc_law.nd rfl (by first | exact Or.inl rfl | exact Or.inr rfl) (pe_op (kAdd (K := K) rfl) (pe_op (kAdd (K := K) rfl) (pe_op (kAdd (K := K) rfl) (pe_lst (pa_cons pe_str (pa_cons (pe_ix (kIx (K := K) rfl) (pv 5) pe_int (fun _ _ => rfl)) (pa_cons (pv 3) (pa_cons pe_str pa_nil))))) (pv 13)) (pe_lst (pa_cons pe_str pa_nil))) (pv 14))) (pss_one (ps_if (PW.pt (pw_or (pt_cmpR (kNe (K := K) rfl hr.units) (pe_callTy (call_strOwn G_Making_str (hr.mono (by decide)) T.m_Making_str.at_ T.m_Making_str.fn (passes_call (takes_of rfl rfl rfl rfl) (fun _ _ _ _ h => h))) (by rfl) T.z_str (by decide +kernel) (pa_cons (pv 15) pa_nil)) (pe_join pe_str (pv 16)) (nomark _)) (pw_or (pt_cmpR (kNe (K := K) rfl hr.units) (pe_callTy (call_strOwn G_Rule_str (hr.mono (by decide)) T.m_Rule_str.at_ T.m_Rule_str.fn (passes_call (takes_of rfl rfl rfl rfl) (fun _ _ _ _ h => h))) (by rfl) T.z_str (by decide +kernel) (pa_cons (pv 11) pa_nil)) (pv 12) (nomark _)) (pw_or1 (pt_cmpR (kNe (K := K) rfl hr.units) (pe_callTy (call_strOwn G_Making_str (hr.mono (by decide)) T.m_Making_str.at_ T.m_Making_str.fn (passes_call (takes_of rfl rfl rfl rfl) (fun _ _ _ _ h => h))) (by rfl) T.z_str (by decide +kernel) (pa_cons (pv 15) pa_nil)) (pe_join pe_str (pv 16)) (nomark _)))))) (pss_one (ps_ret pe_bl)) pss_nil)))))))))))))))))))) (pss_one (ps_ret pe_bl))), ?_⟩
    refine rd_start (σ' := [some _, none, none, none, none, none, none, none, none, none, none, none, none, none, none, none, none, none, none]) rfl ?_
    walk_at "rd"
    refine nw_in fun q1 H1 n1 s1 e1 => ?_
    refine rd_addL (Same.seq s1 hq) (.inl (.inl e1)) (le_size (by rw [List.length_map, List.length_singleton]; omega)) ?_
    refine nw_in fun q2 H2 n2 s2 e2 => ?_
    walk_at "rd"
    refine rd_slL (.inl (.inl e2)) ?_
    refine nw_in fun q3 H3 n3 s3 e3 => ?_
    have em : ns.map V.int ++ [V.int 0] = (ns ++ [0]).map V.int := by rw [List.map_append]; rfl
    rw [em] at e3
    have ec : cutV ((ns ++ [0]).map V.int) none (some 24) = ((ns ++ [0]).take 24).map V.int := cut_to _ 24
    rw [ec] at e3
    refine for_seqB (K := K) (H0 := H3) (.inl (.inl (.inl e3))) (fun i σ H' => Same H3 H' ∧ ∃ v1 v2 v3 v4 v5 v6 v7 v8 v9 v10 v11 v12 v13 v14 v15 v16, σ = [some (.ref a), v1, v2, v3, v4, v5, v6, v7, v8, v9, v10, v11, v12, v13, v14, v15, v16, none, none]) (Same.refl _) ⟨Same.refl _, _, _, _, _, _, _, _, _, _, _, _, _, _, _, _, _, rfl⟩ (fun i σ H' _ h => h.1) ?_ ?_
    · rintro i y σ H4 hi4 ⟨s4, v1, v2, v3, v4, v5, v6, v7, v8, v9, v10, v11, v12, v13, v14, v15, v16, rfl⟩
      obtain ⟨c, hc, rfl⟩ := get_map hi4
      walk_at "rd"
      refine ⟨c, rfl, fun s H5 ns5 s5 st5 => ?_⟩
      walk_at "rd"
      refine ⟨s, rfl, st5, fun nm H6 b6 st6 hnm => ?_⟩
      walk_at "rd"
      refine ⟨s, rfl, st6, fun va H7 vv vars xs nva b7 st7 hva dv hv hg hne hl4 => ?_⟩
      walk_at "rd"
      refine rd_itL (.inl (.inl hva)) ?_
      have nsva : s ≠ va := st6.ne nva
      have hvl : vars.length = xs.length := by rw [← hv.1, List.length_map]
      refine lc_map (f := fun v => PyData.str v.1) walk_list dv (by omega) (fun H' s => .inl (.inl (s _ _ hva))) (fun w x H8 P hw hx s8 k8 => ?_) (fun qn H8 ys nqn s8 h8 d8 => ?_)
      · obtain ⟨t, rfl, ht⟩ := encV_inv hx
        refine rd_elt (σ' := [some (.ref a), some (.int c), some (.ref s), some (.str nm), some (.ref va), v5, v6, v7, v8, v9, v10, v11, v12, v13, v14, v15, v16, none, none]) rfl ?_
        refine rd_gtup (.inl (.inl ht)) rfl ?_
        walk_at "rd"
        exact k8 _ H8 (Same.refl _) (.str _)
      have ey : ys = xs.map V.str := DtAll.strs_inv (by rw [← hv.1, List.map_map]; exact d8)
      rw [ey] at h8
      have nsqn : s ≠ qn := st7.ne nqn
      walk_at "rd"
      refine ⟨s, qn, xs, rfl, st7.same s8, h8, hne, hl4, fun ca H9 cv cs nca b9 st9 hca dc hch hcov l1 l3 => ?_⟩
      have nsca : s ≠ ca := (st7.same s8).ne nca
      walk_at "rd"
      refine ⟨s, 3, rfl, st9, by decide, by decide, fun t H10 b10 st10 t0 t1 => ?_⟩
      walk_at "rd"
      refine rd_eqS rfl ?_
      walk_at "r1"
      with_reducible show tSeq _ _ _ _ _
      have b510 : Sb s H5 H10 := Sb.trans b6 (Sb.trans b7 (Sb.trans (Sb.of s8) (Sb.trans b9 b10)))
      have b810 : Sb s H8 H10 := Sb.trans b9 b10
      have hva10 := b810 _ _ (Ne.symm nsva) (s8 _ _ hva)
      have dv10 := ((dv.mono (.of s8)).mono ((st7.same s8).keep b810))
      have hca10 := b10 _ _ (Ne.symm nsca) hca
      have dc10 := dc.mono (st9.keep b10)
      have hqn10 := b810 _ _ (Ne.symm nsqn) h8
      have hx1 : 1 ≤ xs.length := by
        cases xs with
        | nil => exact absurd rfl hne
        | cons _ _ => simp
      refine rd_cut (fun σ' H' => Same H10 H' ∧ ∃ va' vv' vars' w7, σ' = [some (.ref a), some (.int c), some (.ref s), some (.str nm), some (.ref va'), some (.ref qn), some (.ref ca), w7, v8, v9, v10, v11, v12, v13, v14, v15, v16, none, none] ∧ s ≠ va' ∧ H' va' = some (.lst vv') ∧ DtAll H' vv' (vars'.map encV) ∧ VP vars' xs) ?_ ?_
      · rintro σ' H11 ⟨s11, va', vv', vars', w7, rfl, nsva', hva', dv', hvp⟩
        have hca11 := s11 _ _ hca10
        have dc11 := dc10.mono (.of s11)
        have hqn11 := s11 _ _ hqn10
        have st11 := st10.same s11
        walk_at "rd"
        refine rd_lenL (.inl (.inl hqn11)) ?_
        rw [List.length_map]
        walk_at "rd"
        refine ⟨s, _, rfl, st11, by omega, by omega, fun g1 H12 b12 st12 g10 g11 => ?_⟩
        obtain ⟨x1, hx1m, ex1⟩ := atI_strs (xs := xs) (i := g1) g10 g11
        have hqn12 := b12 _ _ (Ne.symm nsqn) hqn11
        refine rd_ixL (.inl (.inl hqn12)) ex1 ?_
        walk_at "rd"
        refine ⟨s, rfl, st12, fun gw H13 b13 st13 hgw => ?_⟩
        have hqn13 := b13 _ _ (Ne.symm nsqn) hqn12
        walk_at "rd"
        refine rd_lenL (.inl (.inl hqn13)) ?_
        rw [List.length_map]
        walk_at "rd"
        refine ⟨s, _, rfl, st13, by omega, by omega, fun g2 H14 b14 st14 g20 g21 => ?_⟩
        obtain ⟨x2, hx2m, ex2⟩ := atI_strs (xs := xs) (i := g2) g20 g21
        have hqn14 := b14 _ _ (Ne.symm nsqn) hqn13
        refine rd_ixL (.inl (.inl hqn14)) ex2 ?_
        walk_at "rd"
        refine nw_in fun gq H15 n15 s15 h15 => ?_
        have nsgq : s ≠ gq := st14.ne n15
        have hqn15 := s15 _ _ hqn14
        walk_at "rd"
        refine rd_lenL (.inl (.inl hqn15)) ?_
        rw [List.length_map]
        walk_at "rd"
        refine ⟨s, _, rfl, st14.same s15, by omega, by omega, fun g3 H16 b16 st16 g30 g31 => ?_⟩
        obtain ⟨y, hym, ey3⟩ := atI_strs (xs := xs) (i := g3) g30 g31
        have b1116 : Sb s H11 H16 := b12.trans (b13.trans (b14.trans ((Sb.of s15).trans b16)))
        have hqn16 := b16 _ _ (Ne.symm nsqn) hqn15
        have hgq16 := b16 _ _ (Ne.symm nsgq) h15
        have hva16 := b1116 _ _ (Ne.symm nsva') hva'
        have dv16 := dv'.mono (st11.keep b1116)
        have hca16 := b1116 _ _ (Ne.symm nsca) hca11
        have dc16 := dc11.mono (st11.keep b1116)
        refine rd_ixL (.inl (.inl hqn16)) ey3 ?_
        walk_at "rd"
        obtain ⟨pb1, pb2, pb3⟩ := pat_good (ru := none) hnm hvp hg.2 hne hl4 hch hcov l1 l3 (fun z e => by cases e)
        obtain ⟨pr1, pr2, pr3⟩ := pat_good (ru := some ((x1, gw, x2), y)) hnm hvp hg.2 hne hl4 hch hcov l1 l3 (fun z e => by cases e; exact ⟨hx1m, hgw, hx2m, hym⟩)
        refine mk_bar (K := K) ⟨nm, vars', cs, none⟩ rfl hva16 dv16 hca16 dc16 pb2 pb1 fun bb H17 s17 hB => ?_
        walk_at "rd"
        refine mk_rule (K := K) ⟨nm, vars', cs, some ((x1, gw, x2), y)⟩ (x1, gw, x2) y rfl (s17 _ _ hgq16) (s17 _ _ hva16) (dv16.mono (.of s17)) (s17 _ _ hca16) (dc16.mono (.of s17)) pr2 pr1 fun rb H18 s18 hR => ?_
        walk_at "rd"
        have s1618 := Same.trans s17 s18
        refine ⟨"rule", ⟨nm, vars', cs, some ((x1, gw, x2), y)⟩, va', ca, vv', cv, rfl, by decide, pr3, s1618 _ _ hva16, dv16.mono (.of s1618), s1618 _ _ hca16, dc16.mono (.of s1618), fun H19 s19 => ?_⟩
        have rlen := row_len (k := "rule") (by decide) pr3
        have lx1 := isName_len (hg.2 _ hx1m)
        have lx2 := isName_len (hg.2 _ hx2m)
        have lgw := isName_len hgw
        have ly := isName_len (hg.2 _ hym)
        walk_at "rd"
        have lgt : (" > " : Str).length = 3 := rfl
        have lby : (" by " : Str).length = 4 := rfl
        have lsp : (" " : Str).length = 1 := rfl
        refine rd_addS (le_size (by omega)) ?_
        walk_at "rd"
        have s1619 := Same.trans s1618 s19
        refine rd_listT (.inl (.inl (s1619 _ _ hgq16))) ?_
        refine nw_in fun q20 H20 n20 s20 h20 => ?_
        walk_at "rd"
        have gsh : ∀ z ∈ ([x1, gw, x2] : List Str), z.length ≤ 100 := fun z hz => by
          simp at hz
          rcases hz with rfl | rfl | rfl <;> omega
        refine ⟨" ", q20, [x1, gw, x2], rfl, rfl, .inl (.inl (.inl h20)), join_room (a := " ") gsh (by show 3 ≤ 10000; decide) (by decide), ?_⟩
        rw [TL.join_eq]
        have jl : (Str.join " " [x1, gw, x2]).length ≤ 100 := by
          show (x1 ++ " " ++ (gw ++ " " ++ x2)).length ≤ 100
          simp only [Str.length_append]
          omega
        refine rd_addS (le_size (by rw [Str.length_append]; omega)) ?_
        walk_at "rd"
        refine rd_addS (le_size (by simp only [Str.length_append]; omega)) ?_
        walk_at "rd"
        refine rd_addS (le_size (by simp only [Str.length_append]; omega)) ?_
        walk_at "rd"
        have eR := rule_row ⟨nm, vars', cs, some ((x1, gw, x2), y)⟩ (x1, gw, x2) y
        have s1620 := Same.trans s1619 s20
        have hB20 := hB.same (Same.trans s18 (Same.trans s19 s20))
        have hR20 := hR.same (Same.trans s19 s20)
        obtain ⟨dxb, fsb, ib, pfb⟩ := id hB20
        obtain ⟨dxr, fsr, ir, pfr⟩ := id hR20
        have ysh : ∀ z ∈ ([x1, gw, x2, y] : List Str), z.length ≤ 100 := fun z hz => by
          simp at hz
          rcases hz with rfl | rfl | rfl | rfl <;> omega
        refine strOwn (C := cBar K) ib ⟨bb, ⟨nm, vars', cs, none⟩, rfl, hB20, pb3, fun H21 s21 => ⟨⟨_, rfl⟩, ?_⟩⟩
        walk_at "rd"
        have s1621 := Same.trans s1620 s21
        refine ⟨"bar", ⟨nm, vars', cs, none⟩, va', ca, vv', cv, rfl, by decide, pb3, s1621 _ _ hva16, dv16.mono (.of s1621), s1621 _ _ hca16, dc16.mono (.of s1621), fun H22 s22 => ?_⟩
        refine rd_neS rfl ?_
        rw [show decide (V.str (barRow ⟨nm, vars', cs, none⟩) = V.str (Str.join " " (partsOf "bar" ⟨nm, vars', cs, none⟩))) = true from decide_eq_true rfl]
        walk_at "rd"
        have s2022 := Same.trans s21 s22
        refine strOwn (C := cRule K) (s2022 _ _ ir) ⟨rb, ⟨nm, vars', cs, some ((x1, gw, x2), y)⟩, (x1, gw, x2), y, rfl, hR20.same s2022, rfl, pr3, ysh, fun H23 s23 => ⟨⟨_, rfl⟩, ?_⟩⟩
        walk_at "rd"
        refine rd_neS rfl ?_
        have dR := decide_eq_true (congrArg V.str eR)
        rw [dR]
        walk_at "rd"
        have s1623 := Same.trans s1621 (Same.trans s22 s23)
        have st23 := st16.same s1623
        have hR23 := hR20.same (Same.trans s2022 s23)
        refine ⟨s, 6, rfl, st23, by decide, by decide, fun d1 H24 b24 st24 d10 d11 => ?_⟩
        walk_at "rd"
        refine ⟨s, d1, rfl, st24, by omega, by omega, fun dq H25 ds ndq b25 st25 hdq gd ld _ => ?_⟩
        have nsdq : s ≠ dq := st24.ne ndq
        walk_at "rd"
        refine ⟨s, 6, rfl, st25, by decide, by decide, fun d2 H26 b26 st26 d20 d21 => ?_⟩
        walk_at "rd"
        refine ⟨s, d2, rfl, st26, by omega, by omega, fun uq H27 us nuq b27 st27 huq gu lu _ => ?_⟩
        have b2527 := b26.trans b27
        have b2327 := b24.trans (b25.trans b2527)
        have hqn27 := b2327 _ _ (Ne.symm nsqn) (s1623 _ _ hqn16)
        have hdq27 := b2527 _ _ (Ne.symm nsdq) hdq
        have hR27 := hR23.sb st23 b2327
        obtain ⟨x0, hx0⟩ : ∃ x, xs[0]? = some x := ⟨_, List.getElem?_eq_getElem hx1⟩
        have hx0m : x0 ∈ xs := List.mem_of_getElem? hx0
        have ix0 : atI (xs.map V.str) 0 = some (.str x0) := at_j 0 rfl (by rw [List.getElem?_map, hx0]; rfl)
        walk_at "rd"
        refine rd_ixL (.inl (.inl hqn27)) ix0 ?_
        walk_at "rd"
        obtain ⟨mk1, mk2, mk3⟩ := mak_good (hg.2 _ hx0m) hnm gd gu (by omega) (by omega)
        refine mk_mak (K := K) ⟨x0, nm, ds, us⟩ hdq27 huq mk2 mk1 fun mb H28 s28 hM => ?_
        walk_at "rd"
        refine rd_ixL (.inl (.inl (s28 _ _ hqn27))) ix0 ?_
        walk_at "rd"
        refine nw_in fun q29 H29 n29 s29 h29 => ?_
        have s2729 := Same.trans s28 s29
        walk_at "rd"
        refine rd_addL (.inl (.inl h29)) (.inl (.inl (s2729 _ _ hdq27))) (le_size (by rw [List.length_map]; show 4 + _ ≤ _; omega)) ?_
        refine nw_in fun q30 H30 n30 s30 h30 => ?_
        walk_at "rd"
        refine nw_in fun q31 H31 n31 s31 h31 => ?_
        refine rd_addL (.inl (.inl (s31 _ _ h30))) (.inl (.inl h31)) (le_size (by rw [List.length_append, List.length_map]; show 4 + _ + 1 ≤ _; omega)) ?_
        refine nw_in fun q32 H32 n32 s32 h32 => ?_
        walk_at "rd"
        have s2732 := Same.trans s2729 (Same.trans s30 (Same.trans s31 s32))
        refine rd_addL (.inl (.inl h32)) (.inl (.inl (s2732 _ _ huq))) (le_size (by rw [List.length_append, List.length_append, List.length_map, List.length_map]; show 4 + _ + 1 + _ ≤ _; omega)) ?_
        refine nw_in fun q33 H33 n33 s33 h33 => ?_
        walk_at "rd"
        have s2833 := Same.trans s29 (Same.trans s30 (Same.trans s31 (Same.trans s32 s33)))
        have s2733 := Same.trans s28 s2833
        have hM33 := hM.same s2833
        have hR33 := hR27.same s2733
        obtain ⟨dxm, fsm, im, pfm⟩ := id hM33
        obtain ⟨dxr2, fsr2, ir2, pfr2⟩ := id hR33
        have h33' : H33 q33 = some (.lst (((["making", x0, nm, ">"] : List Str) ++ ds ++ (["<"] : List Str) ++ us).map V.str)) := by rw [h33]; simp
        have jroom : ((((["making", x0, nm, ">"] : List Str) ++ ds ++ (["<"] : List Str) ++ us)).map (·.length)).sum + (((["making", x0, nm, ">"] : List Str) ++ ds ++ (["<"] : List Str) ++ us)).length * (" " : Str).length ≤ 16777216 := by
          refine join_room (fun z hz => ?_) (by rw [List.length_append, List.length_append, List.length_append]; show 4 + _ + 1 + _ ≤ _; omega) (by decide)
          have : z = "making" ∨ z = ">" ∨ z = "<" ∨ z ∈ x0 :: nm :: (ds ++ us) := by
            simp at hz ⊢
            rcases hz with h | h | h | h | h | h | h <;> simp [h]
          rcases this with rfl | rfl | rfl | h
          · decide
          · decide
          · decide
          · exact mk3 z h
        have dM : decide (V.str (makRow ⟨x0, nm, ds, us⟩) = V.str (Str.join " " ((["making", x0, nm, ">"] : List Str) ++ ds ++ (["<"] : List Str) ++ us))) = true := decide_eq_true rfl
        refine strOwn (C := cMaking K) im ⟨mb, ⟨x0, nm, ds, us⟩, rfl, hM33, mk3, by show ds.length ≤ 1000; omega, by show us.length ≤ 1000; omega, fun H34 s34 => ⟨⟨_, rfl⟩, ?_⟩⟩
        walk_at "rd"
        refine ⟨" ", q33, _, rfl, rfl, .inl (.inl (.inl (s34 _ _ h33'))), jroom, ?_⟩
        rw [TL.join_eq]
        refine rd_neS rfl ?_
        rw [dM]
        walk_at "rd"
        refine strOwn (C := cRule K) (s34 _ _ ir2) ⟨rb, ⟨nm, vars', cs, some ((x1, gw, x2), y)⟩, (x1, gw, x2), y, rfl, hR33.same s34, rfl, pr3, ysh, fun H35 s35 => ⟨⟨_, rfl⟩, ?_⟩⟩
        walk_at "rd"
        refine rd_neS rfl ?_
        rw [dR]
        walk_at "rd"
        have s3335 := Same.trans s34 s35
        refine strOwn (C := cMaking K) (s3335 _ _ im) ⟨mb, ⟨x0, nm, ds, us⟩, rfl, hM33.same s3335, mk3, by show ds.length ≤ 1000; omega, by show us.length ≤ 1000; omega, fun H36 s36 => ⟨⟨_, rfl⟩, ?_⟩⟩
        walk_at "rd"
        have s3336 := Same.trans s3335 s36
        refine ⟨" ", q33, _, rfl, rfl, .inl (.inl (.inl (s3336 _ _ h33'))), jroom, ?_⟩
        rw [TL.join_eq]
        refine rd_neS rfl ?_
        rw [dM]
        walk_at "rd"
        have bAll : Sb s H5 H36 := b510.trans ((Sb.of s11).trans (b1116.trans ((Sb.of s1623).trans (b2327.trans (Sb.of (Same.trans s2733 s3336))))))
        exact ⟨Same.trans s4 (Sb.same ns5 s5 bAll), _, _, _, _, _, _, _, _, _, _, _, _, _, _, _, _, rfl⟩
      · intro N hN
        walk_at "rd"
        refine rd_ite (fun h => ?_) (fun h => ?_)
        · walk_at "rd"
          refine ⟨va, vv, rfl, .inl (.inl hva10), ?_⟩
          refine fun q11 n11 => ?_
          have s11 : Same H10 (upd H10 q11 (.lst vv.reverse)) := Same.nw n11
          walk_at "rd"
          refine hN _ _ ⟨s11, q11, vv.reverse, vars.reverse, _, rfl, st10.ne n11, upd_same, ?_, (VP.of hv hg).rev⟩
          rw [List.map_reverse]
          exact DtAll.rev (dv10.mono (.of s11))
        · walk_at "rd"
          exact hN _ _ ⟨Same.refl _, va, vv, vars, _, rfl, nsva, hva10, dv10, VP.of hv hg⟩
    · rintro σ H4 ⟨s4, v1, v2, v3, v4, v5, v6, v7, v8, v9, v10, v11, v12, v13, v14, v15, v16, rfl⟩
      walk_at "rd"
      exact k H4
end

/-! the head -/
def hfa : List He.Fa := [.cls "Bar", .cls "Making", .cls "Rule", .glo "Apart", .glo "BadCount", .glo "Bar", .glo "Loose", .glo "Making", .glo "NoName", .glo "NoVariable", .glo "Pattern", .glo "Rule", .glo "Twice", .glo "asked_names", .glo "asked_once", .glo "asked_texts", .glo "asked_together", .glo "asked_variables", .glo "is_name", .glo "law", .glo "_law_conditions", .glo "_law_digit", .glo "_law_long", .glo "_law_names", .glo "_law_row", .glo "_law_state", .glo "_law_variables", .glo "pattern_parts", .glo "variable_part", .meth "Bar" "hands", .meth "Bar" "__str__", .meth "Bar" "triples", .meth "Making" "__str__", .meth "Rule" "hands", .meth "Rule" "__str__", .meth "Rule" "triples", .mkr "Bar", .mkr "Making", .mkr "Rule", .noat "Apart" "place", .noat "BadCount" "count", .noat "BadCount" "what", .noat "Bar" "conditions", .noat "Bar" "name", .noat "Bar" "variables", .noat "Loose" "name", .noat "Making" "down", .noat "Making" "made", .noat "Making" "maker", .noat "Making" "up", .noat "NoName" "name", .noat "NoVariable" "name", .noat "Rule" "by", .noat "Rule" "conditions", .noat "Rule" "gives", .noat "Rule" "name", .noat "Rule" "variables", .noat "Twice" "name", .int "LONGEST" 12, .int "MOST_CONDITIONS" 3, .int "MOST_VARIABLES" 4, .str "FIGURES" "0123456789", .str "LETTERS" "abcdefghijklmnopqrstuvwxyz", .free "abs", .free "all", .free "enumerate", .free "int", .free "len", .free "list", .free "max", .free "range", .free "str", .free "tuple"]
def hd_is_name : He.DefD := ⟨("is_name", none), "is_name", "is_name", defArgs s_is_name, defBody s_is_name, defScope s_is_name, [], []⟩
def hd_NoName_init : He.DefD := ⟨("NoName", some "__init__"), "__init__", "NoName.__init__", defArgs s_NoName_init, defBody s_NoName_init, defScope s_NoName_init, [], []⟩
def hd_asked_names : He.DefD := ⟨("asked_names", none), "asked_names", "asked_names", defArgs s_asked_names, defBody s_asked_names, defScope s_asked_names, [], []⟩
def hd_Twice_init : He.DefD := ⟨("Twice", some "__init__"), "__init__", "Twice.__init__", defArgs s_Twice_init, defBody s_Twice_init, defScope s_Twice_init, [], []⟩
def hd_NoVariable_init : He.DefD := ⟨("NoVariable", some "__init__"), "__init__", "NoVariable.__init__", defArgs s_NoVariable_init, defBody s_NoVariable_init, defScope s_NoVariable_init, [], []⟩
def hd_Loose_init : He.DefD := ⟨("Loose", some "__init__"), "__init__", "Loose.__init__", defArgs s_Loose_init, defBody s_Loose_init, defScope s_Loose_init, [], []⟩
def hd_Apart_init : He.DefD := ⟨("Apart", some "__init__"), "__init__", "Apart.__init__", defArgs s_Apart_init, defBody s_Apart_init, defScope s_Apart_init, [], []⟩
def hd_BadCount_init : He.DefD := ⟨("BadCount", some "__init__"), "__init__", "BadCount.__init__", defArgs s_BadCount_init, defBody s_BadCount_init, defScope s_BadCount_init, [], []⟩
def hd_asked_once : He.DefD := ⟨("asked_once", none), "asked_once", "asked_once", defArgs s_asked_once, defBody s_asked_once, defScope s_asked_once, [], []⟩
def hd_Pattern_triples : He.DefD := ⟨("Bar", some "triples"), "triples", "Pattern.triples", defArgs s_Pattern_triples, defBody s_Pattern_triples, defScope s_Pattern_triples, [], []⟩
def hd_Pattern_hands : He.DefD := ⟨("Bar", some "hands"), "hands", "Pattern.hands", defArgs s_Pattern_hands, defBody s_Pattern_hands, defScope s_Pattern_hands, [], []⟩
def hd_Rule_triples : He.DefD := ⟨("Rule", some "triples"), "triples", "Rule.triples", defArgs s_Rule_triples, defBody s_Rule_triples, defScope s_Rule_triples, [], []⟩
def hd_Rule_hands : He.DefD := ⟨("Rule", some "hands"), "hands", "Rule.hands", defArgs s_Rule_hands, defBody s_Rule_hands, defScope s_Rule_hands, [], []⟩
def hd_asked_texts : He.DefD := ⟨("asked_texts", none), "asked_texts", "asked_texts", defArgs s_asked_texts, defBody s_asked_texts, defScope s_asked_texts, [], []⟩
def hd_asked_variables : He.DefD := ⟨("asked_variables", none), "asked_variables", "asked_variables", defArgs s_asked_variables, defBody s_asked_variables, defScope s_asked_variables, [], []⟩
def hd_asked_together : He.DefD := ⟨("asked_together", none), "asked_together", "asked_together", defArgs s_asked_together, defBody s_asked_together, defScope s_asked_together, [], []⟩
def hd_Pattern_init : He.DefD := ⟨("Pattern", some "__init__"), "__init__", "Pattern.__init__", defArgs s_Pattern_init, defBody s_Pattern_init, defScope s_Pattern_init, [], []⟩
def hd_Bar_init : He.DefD := ⟨("Bar", some "__init__"), "__init__", "Bar.__init__", defArgs s_Bar_init, defBody s_Bar_init, defScope s_Bar_init, [], []⟩
def hd_Rule_init : He.DefD := ⟨("Rule", some "__init__"), "__init__", "Rule.__init__", defArgs s_Rule_init, defBody s_Rule_init, defScope s_Rule_init, [], []⟩
def hd_Making_init : He.DefD := ⟨("Making", some "__init__"), "__init__", "Making.__init__", defArgs s_Making_init, defBody s_Making_init, defScope s_Making_init, [], []⟩
def hd_variable_part : He.DefD := ⟨("variable_part", none), "variable_part", "variable_part", defArgs s_variable_part, defBody s_variable_part, defScope s_variable_part, [], []⟩
def hd_pattern_parts : He.DefD := ⟨("pattern_parts", none), "pattern_parts", "pattern_parts", defArgs s_pattern_parts, defBody s_pattern_parts, defScope s_pattern_parts, [], []⟩
def hd_Bar_str : He.DefD := ⟨("Bar", some "__str__"), "__str__", "Bar.__str__", defArgs s_Bar_str, defBody s_Bar_str, defScope s_Bar_str, [], []⟩
def hd_Rule_str : He.DefD := ⟨("Rule", some "__str__"), "__str__", "Rule.__str__", defArgs s_Rule_str, defBody s_Rule_str, defScope s_Rule_str, [], []⟩
def hd_Making_str : He.DefD := ⟨("Making", some "__str__"), "__str__", "Making.__str__", defArgs s_Making_str, defBody s_Making_str, defScope s_Making_str, [], []⟩
def hd_law_state : He.DefD := ⟨("_law_state", none), "_law_state", "_law_state", defArgs s_law_state, defBody s_law_state, defScope s_law_state, [], []⟩
def hd_law_digit : He.DefD := ⟨("_law_digit", none), "_law_digit", "_law_digit", defArgs s_law_digit, defBody s_law_digit, defScope s_law_digit, [], []⟩
def hd_law_long : He.DefD := ⟨("_law_long", none), "_law_long", "_law_long", defArgs s_law_long, defBody s_law_long, defScope s_law_long, [], []⟩
def hd_law_names : He.DefD := ⟨("_law_names", none), "_law_names", "_law_names", defArgs s_law_names, defBody s_law_names, defScope s_law_names, [], []⟩
def hd_law_variables : He.DefD := ⟨("_law_variables", none), "_law_variables", "_law_variables", defArgs s_law_variables, defBody s_law_variables, defScope s_law_variables, [], []⟩
def hd_law_conditions : He.DefD := ⟨("_law_conditions", none), "_law_conditions", "_law_conditions", defArgs s_law_conditions, defBody s_law_conditions, defScope s_law_conditions, [], []⟩
def hd_law_row : He.DefD := ⟨("_law_row", none), "_law_row", "_law_row", defArgs s_law_row, defBody s_law_row, defScope s_law_row, [], []⟩
def hd_law : He.DefD := ⟨("law", none), "law", "law", defArgs s_law, defBody s_law, defScope s_law, [], []⟩
def hfn : List He.DefD := [hd_is_name, hd_NoName_init, hd_asked_names, hd_Twice_init, hd_NoVariable_init, hd_Loose_init, hd_Apart_init, hd_BadCount_init, hd_asked_once, hd_Pattern_triples, hd_Pattern_hands, hd_Rule_triples, hd_Rule_hands, hd_asked_texts, hd_asked_variables, hd_asked_together, hd_Pattern_init, hd_Bar_init, hd_Rule_init, hd_Making_init, hd_variable_part, hd_pattern_parts, hd_Bar_str, hd_Rule_str, hd_Making_str, hd_law_state, hd_law_digit, hd_law_long, hd_law_names, hd_law_variables, hd_law_conditions, hd_law_row, hd_law]
def hexL (K : PySem.W.Frag) : List Bool := [cfunB K (He.ga K "Pattern") "__init__" (He.ma K (He.ga K "Pattern") "__init__"), creadB K (He.ga K "Pattern"), excAtB K (He.ga K "Apart") (He.ma K (He.ga K "Apart") "__init__"), excAtB K (He.ga K "BadCount") (He.ma K (He.ga K "BadCount") "__init__"), excAtB K (He.ga K "Loose") (He.ma K (He.ga K "Loose") "__init__"), excAtB K (He.ga K "NoName") (He.ma K (He.ga K "NoName") "__init__"), excAtB K (He.ga K "NoVariable") (He.ma K (He.ga K "NoVariable") "__init__"), excAtB K (He.ga K "Twice") (He.ma K (He.ga K "Twice") "__init__")]
def hex (K : PySem.W.Frag) : Bool := (hexL K).all id
theorem txt_of {h : Heap} {K : PySem.W.Frag} {mg : Str → Option Value} (X : K.In h) (G : h.Ns mainGlobals mg) (c : SaysY hfa hfn hex K) : Txt K mg where
  c_Bar := He.cls_ok (c.d.fact 0 rfl)
  c_Making := He.cls_ok (c.d.fact 1 rfl)
  c_Rule := He.cls_ok (c.d.fact 2 rfl)
  g_Apart := He.glo_ok X G (c.d.fact 3 rfl)
  g_BadCount := He.glo_ok X G (c.d.fact 4 rfl)
  g_Bar := He.glo_ok X G (c.d.fact 5 rfl)
  g_Loose := He.glo_ok X G (c.d.fact 6 rfl)
  g_Making := He.glo_ok X G (c.d.fact 7 rfl)
  g_NoName := He.glo_ok X G (c.d.fact 8 rfl)
  g_NoVariable := He.glo_ok X G (c.d.fact 9 rfl)
  g_Pattern := He.glo_ok X G (c.d.fact 10 rfl)
  g_Rule := He.glo_ok X G (c.d.fact 11 rfl)
  g_Twice := He.glo_ok X G (c.d.fact 12 rfl)
  g_asked_names := He.glo_ok X G (c.d.fact 13 rfl)
  g_asked_once := He.glo_ok X G (c.d.fact 14 rfl)
  g_asked_texts := He.glo_ok X G (c.d.fact 15 rfl)
  g_asked_together := He.glo_ok X G (c.d.fact 16 rfl)
  g_asked_variables := He.glo_ok X G (c.d.fact 17 rfl)
  g_is_name := He.glo_ok X G (c.d.fact 18 rfl)
  g_law := He.glo_ok X G (c.d.fact 19 rfl)
  g_law_conditions := He.glo_ok X G (c.d.fact 20 rfl)
  g_law_digit := He.glo_ok X G (c.d.fact 21 rfl)
  g_law_long := He.glo_ok X G (c.d.fact 22 rfl)
  g_law_names := He.glo_ok X G (c.d.fact 23 rfl)
  g_law_row := He.glo_ok X G (c.d.fact 24 rfl)
  g_law_state := He.glo_ok X G (c.d.fact 25 rfl)
  g_law_variables := He.glo_ok X G (c.d.fact 26 rfl)
  g_pattern_parts := He.glo_ok X G (c.d.fact 27 rfl)
  g_variable_part := He.glo_ok X G (c.d.fact 28 rfl)
  m_Bar_hands := He.meth_ok (c.d.fact 29 rfl)
  m_Bar_str := He.meth_ok (c.d.fact 30 rfl)
  m_Bar_triples := He.meth_ok (c.d.fact 31 rfl)
  m_Making_str := He.meth_ok (c.d.fact 32 rfl)
  m_Rule_hands := He.meth_ok (c.d.fact 33 rfl)
  m_Rule_str := He.meth_ok (c.d.fact 34 rfl)
  m_Rule_triples := He.meth_ok (c.d.fact 35 rfl)
  mk_Bar := He.mkr_ok (c.d.fact 36 rfl)
  mk_Making := He.mkr_ok (c.d.fact 37 rfl)
  mk_Rule := He.mkr_ok (c.d.fact 38 rfl)
  n_Apart_place := He.noat_ok (c.d.fact 39 rfl)
  n_BadCount_count := He.noat_ok (c.d.fact 40 rfl)
  n_BadCount_what := He.noat_ok (c.d.fact 41 rfl)
  n_Bar_conditions := He.noat_ok (c.d.fact 42 rfl)
  n_Bar_name := He.noat_ok (c.d.fact 43 rfl)
  n_Bar_variables := He.noat_ok (c.d.fact 44 rfl)
  n_Loose_name := He.noat_ok (c.d.fact 45 rfl)
  n_Making_down := He.noat_ok (c.d.fact 46 rfl)
  n_Making_made := He.noat_ok (c.d.fact 47 rfl)
  n_Making_maker := He.noat_ok (c.d.fact 48 rfl)
  n_Making_up := He.noat_ok (c.d.fact 49 rfl)
  n_NoName_name := He.noat_ok (c.d.fact 50 rfl)
  n_NoVariable_name := He.noat_ok (c.d.fact 51 rfl)
  n_Rule_by := He.noat_ok (c.d.fact 52 rfl)
  n_Rule_conditions := He.noat_ok (c.d.fact 53 rfl)
  n_Rule_gives := He.noat_ok (c.d.fact 54 rfl)
  n_Rule_name := He.noat_ok (c.d.fact 55 rfl)
  n_Rule_variables := He.noat_ok (c.d.fact 56 rfl)
  n_Twice_name := He.noat_ok (c.d.fact 57 rfl)
  vi_LONGEST := He.int_ok X G (c.d.fact 58 rfl)
  vi_MOST_CONDITIONS := He.int_ok X G (c.d.fact 59 rfl)
  vi_MOST_VARIABLES := He.int_ok X G (c.d.fact 60 rfl)
  vs_FIGURES := He.str_ok X G (c.d.fact 61 rfl)
  vs_LETTERS := He.str_ok X G (c.d.fact 62 rfl)
  z_abs := He.free_ok X G (c.d.fact 63 rfl)
  z_all := He.free_ok X G (c.d.fact 64 rfl)
  z_enumerate := He.free_ok X G (c.d.fact 65 rfl)
  z_int := He.free_ok X G (c.d.fact 66 rfl)
  z_len := He.free_ok X G (c.d.fact 67 rfl)
  z_list := He.free_ok X G (c.d.fact 68 rfl)
  z_max := He.free_ok X G (c.d.fact 69 rfl)
  z_range := He.free_ok X G (c.d.fact 70 rfl)
  z_str := He.free_ok X G (c.d.fact 71 rfl)
  z_tuple := He.free_ok X G (c.d.fact 72 rfl)
  cf_Pattern_init := cfunB_ok (all_at c.more 0 rfl)
  cr_Pattern := creadB_ok (all_at c.more 1 rfl)
  x_Apart := excAtB_ok (all_at c.more 2 rfl)
  x_BadCount := excAtB_ok (all_at c.more 3 rfl)
  x_Loose := excAtB_ok (all_at c.more 4 rfl)
  x_NoName := excAtB_ok (all_at c.more 5 rfl)
  x_NoVariable := excAtB_ok (all_at c.more 6 rfl)
  x_Twice := excAtB_ok (all_at c.more 7 rfl)
  d_is_name := c.d.def_ 0 rfl
  d_NoName_init := c.d.def_ 1 rfl
  d_asked_names := c.d.def_ 2 rfl
  d_Twice_init := c.d.def_ 3 rfl
  d_NoVariable_init := c.d.def_ 4 rfl
  d_Loose_init := c.d.def_ 5 rfl
  d_Apart_init := c.d.def_ 6 rfl
  d_BadCount_init := c.d.def_ 7 rfl
  d_asked_once := c.d.def_ 8 rfl
  d_Pattern_triples := c.d.def_ 9 rfl
  d_Pattern_hands := c.d.def_ 10 rfl
  d_Rule_triples := c.d.def_ 11 rfl
  d_Rule_hands := c.d.def_ 12 rfl
  d_asked_texts := c.d.def_ 13 rfl
  d_asked_variables := c.d.def_ 14 rfl
  d_asked_together := c.d.def_ 15 rfl
  d_Pattern_init := c.d.def_ 16 rfl
  d_Bar_init := c.d.def_ 17 rfl
  d_Rule_init := c.d.def_ 18 rfl
  d_Making_init := c.d.def_ 19 rfl
  d_variable_part := c.d.def_ 20 rfl
  d_pattern_parts := c.d.def_ 21 rfl
  d_Bar_str := c.d.def_ 22 rfl
  d_Rule_str := c.d.def_ 23 rfl
  d_Making_str := c.d.def_ 24 rfl
  d_law_state := c.d.def_ 25 rfl
  d_law_digit := c.d.def_ 26 rfl
  d_law_long := c.d.def_ 27 rfl
  d_law_names := c.d.def_ 28 rfl
  d_law_variables := c.d.def_ 29 rfl
  d_law_conditions := c.d.def_ 30 rfl
  d_law_row := c.d.def_ 31 rfl
  d_law := c.d.def_ 32 rfl
def loose0 : List Str := ["_wall", "__name__", "WhoError", "NoName", "BadCount", "Twice", "NoVariable", "Loose", "Apart", "LETTERS", "FIGURES", "LONGEST", "is_name", "asked_names", "asked_once", "MOST_VARIABLES", "MOST_CONDITIONS", "asked_texts", "asked_variables", "asked_together", "variable_part", "pattern_parts", "Pattern", "Bar", "Rule", "Making", "_law_cell_at", "_law_state", "_law_digit", "_law_long"]
def loose1 : List Str := ["_law_names", "_law_variables", "_law_conditions", "_law_row"]
abbrev loose : List Str := loose0 ++ loose1
abbrev hR : PySem.W.OpenRow := PySem.W.OpenLaw.row PySem.Challenge.rw_whomay_k08_rows_of_patterns
abbrev hk : PySem.W.Hook := hookY 5 hfa hfn hex
def hob (s : PySem.W.SharedT) : AlY := obsY 5 hfa hfn hex (HandSHeadRun.getT s)
theorem hob_eq (s : PySem.W.SharedT) : hob s = hk.obs s.abs := obsY_eq (HandSHeadRun.getT_eq s)
theorem hrun (w : World) : HandSHeadRun.RunEq hR (PySem.W.view hR.prog [37]) hk hob 6000 loose w := by
  intro os
  kernel_rfl
end Toy
open PySem PySem.W PySem.Calls PyProof.Rows
theorem PySem.Challenge.cw_whomay_k08_rows_of_patterns_holds : PySem.Challenge.rw_whomay_k08_rows_of_patterns.Holds := by
  w_on; o_law
  refine HandSHeadRun.head_any (r := OpenLaw.row PySem.Challenge.rw_whomay_k08_rows_of_patterns) (q := view (OpenLaw.row PySem.Challenge.rw_whomay_k08_rows_of_patterns).prog [37]) (H := Toy.hk) (ob := Toy.hob) (M := 6000) (loose := Toy.loose) (d := HandSHeadRun.topDef (OpenLaw.row PySem.Challenge.rw_whomay_k08_rows_of_patterns).prog 37) (kwd := []) Toy.hob_eq
    (by kernel_rfl) (fun s => by kernel_rfl) Toy.hrun (by kernel_rfl) (by kernel_rfl) (by kernel_rfl) (by rfl) (by first | assumption | decide +kernel) (by decide +kernel) ⟨rfl, rfl, rfl, rfl, rfl, by decide +kernel⟩ ?hw ?hc
  case hw => w_witness2
  case hc =>
    refine RX.walk_ofX (l := PySem.Challenge.rw_whomay_k08_rows_of_patterns) (n := 63) (k := 11) (x := "_law_script") rfl (by decide) (by kernel_rfl) ⟨rfl, by decide, by decide⟩ ?F
    intro w mg fa h Y G hmg0
    obtain ⟨K, KX, c⟩ := Y
    have hmg : mg ("law" : PySem.Str) = some (.ref fa) := by
      have e : (HandSHeadRun.topDef (OpenLaw.row PySem.Challenge.rw_whomay_k08_rows_of_patterns).prog 37).name = ("law" : PySem.Str) := by kernel_rfl
      rw [← e]
      exact hmg0
    have T := Toy.txt_of KX G c
    have e := hmg.symm.trans T.g_law
    cases e
    exact ⟨K, Toy.sp_law K, KX, fun H a ns hl hS => ⟨a, ns, rfl, by omega, hS, fun _ => rfl⟩, Toy.ok_law (P := PySem.Challenge.rw_whomay_k08_rows_of_patterns.prog) (w := w) T⟩


